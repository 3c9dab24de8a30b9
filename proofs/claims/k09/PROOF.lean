import PyProof.Rows.All
import Wide.All
import OpenK.AllK
import Wide.FinOn
import HandS.ForMost
import HandS.Zip
import HandS.TupAny
import HandS.IsInst
import HandS.Style
import HandS.Walk
import HandS.Defaults
import HandS.Exc
import HandS.WordsExc
import HandS.HeadEnd
import HandS.Head0
import HandS.Head1
import HandS.Head2
import HandS.HeadHook1
import HandS.HeadHook2
import HandS.HeadHook3
import HandS.HeadHook4
import HandS.Wide
import HandS.Flow
import HandS.TupMul
import PyProof.ReprRoads
import HandS.Text
import HandS.List
import HandS.FStr
import HandS.Comp
import HandS.RaiseMore
import HandS.Deep
import HandS.ExcInit
import HandS.ExcField
import HandS.ExcOwn
import KE.KExcInit
import KE.KExcIs
import HandS.ExcCtx
import HandS.Hot
import PySem.Challenge.RW_ownedtongue_k09_refusals_made_by_hand
set_option Elab.async false
set_option linter.all false
set_option maxRecDepth 100000
namespace DL
open PySem PySem.Spec PyProof.Rows L2

abbrev D := PyData
abbrev hno : Hp := fun _ => none

/-! ### what stands for a thing, apart from what may change (A) -/
def TupA (K : PySem.W.Frag) (H : Hp) (A : Addr → Prop) (a : Addr) (vs : List V) : Prop := (¬ A a ∧ Rd H a (.tup vs)) ∨ SqT K hno a vs
def LstA (K : PySem.W.Frag) (H : Hp) (A : Addr → Prop) (a : Addr) (vs : List V) : Prop := ¬ A a ∧ Rd H a (.lst vs)
mutual
def RepD (K : PySem.W.Frag) (H : Hp) (A : Addr → Prop) : PyData → V → Prop
  | .none, v => v = .non
  | .bool b, v => v = .bl b
  | .int i, v => v = .int i
  | .str x, v => v = .str x ∧ x.length ≤ sizeLine
  | .tuple xs, v => ∃ a vs, v = .ref a ∧ TupA K H A a vs ∧ vs.length ≤ sizeLine ∧ RepL K H A xs vs
  | .list xs, v => ∃ a vs, v = .ref a ∧ LstA K H A a vs ∧ vs.length ≤ sizeLine ∧ RepL K H A xs vs
  | .dict kvs, v => ∃ a, v = .ref a ∧ kvs = [] ∧ ¬ A a ∧ H a = some (.dK [])
def RepL (K : PySem.W.Frag) (H : Hp) (A : Addr → Prop) : List PyData → List V → Prop
  | [], vs => vs = []
  | d :: ds, vs => ∃ v r, vs = v :: r ∧ RepD K H A d v ∧ RepL K H A ds r
end

/-- nothing that was tracked changes, but at W -/
structure Frm (W : Addr → Prop) (H H' : Hp) : Prop where
  eq : ∀ a o, H a = some o → ¬ W a → H' a = some o
  on : ∀ a, H a ≠ none → H' a ≠ none
theorem Frm.refl {W : Addr → Prop} {H : Hp} : Frm W H H := ⟨fun _ _ h _ => h, fun _ h => h⟩
theorem Frm.trans {W W' : Addr → Prop} {H H1 H2 : Hp} (a : Frm W H H1) (b : Frm W' H1 H2) (hw : ∀ x, W' x → W x ∨ H x = none) : Frm W H H2 :=
  ⟨fun x o h n => b.eq x o (a.eq x o h n) fun z => (hw x z).elim n (fun q => by rw [q] at h; cases h), fun x h => b.on x (a.on x h)⟩
theorem Frm.trans' {W : Addr → Prop} {H H1 H2 : Hp} (a : Frm W H H1) (b : Frm W H1 H2) : Frm W H H2 := a.trans b fun _ z => .inl z
abbrev F0 : Addr → Prop := fun _ => False
theorem Frm.of0 {W : Addr → Prop} {H H' : Hp} (a : Frm F0 H H') : Frm W H H' := ⟨fun x o h _ => a.eq x o h id, a.on⟩
theorem upd_on {H : Hp} {p a : Addr} {o : HO} (e : H a ≠ none) : upd H p o a ≠ none := by
  by_cases q : a = p
  · subst q; rw [upd_same]; exact fun z => nomatch z
  · rw [upd_ne q]; exact e
theorem Frm.new {H : Hp} {p : Addr} {o : HO} (h : H p = none) : Frm F0 H (upd H p o) :=
  ⟨fun _ _ e _ => (upd_ne (ne_of_none e h)).trans e, fun _ e => upd_on e⟩
theorem Frm.put {W : Addr → Prop} {H : Hp} {p : Addr} {o : HO} (h : W p) : Frm W H (upd H p o) :=
  ⟨fun a _ e n => (upd_ne (show a ≠ p from fun z => n (by rw [z]; exact h))).trans e, fun _ e => upd_on e⟩

section
variable {K : PySem.W.Frag} {H H' : Hp} {A A' W : Addr → Prop} {a : Addr} {vs : List V}
theorem sqT_no (h : SqT K hno a vs) : SqT K H a vs := by
  rcases h with (h | ⟨o, h⟩) | h
  · cases h
  · cases h
  · exact .inr h
theorem sqL_no (h : SqL K hno a vs) : SqL K H a vs := by
  rcases h with (h | ⟨o, h⟩) | h
  · cases h
  · cases h
  · exact .inr h
theorem TupA.sq (h : TupA K H A a vs) : SqT K H a vs := h.elim (fun z => .inl z.2) sqT_no
theorem LstA.sq (h : LstA K H A a vs) : SqL K H a vs := .inl h.2
theorem rd_on {u : HO} (h : Rd H a u) : H a ≠ none := by
  rcases h with h | ⟨o, h⟩ <;> rw [h] <;> exact fun z => nomatch z
theorem rd_ext {u : HO} (f : Frm W H H') (hw : ¬ W a) (h : Rd H a u) : Rd H' a u := by
  rcases h with h | ⟨o, h⟩
  · exact .inl (f.eq a _ h hw)
  · exact .inr ⟨o, f.eq a _ h hw⟩
/-- how what stands for a thing goes on: the heap changes at W alone, what may change grows by new ones -/
structure Go (H : Hp) (A : Addr → Prop) (H' : Hp) (A' : Addr → Prop) : Prop where
  eq : ∀ a o, H a = some o → ¬ A a → H' a = some o
  ga : ∀ a, A' a → A a ∨ H a = none
theorem Go.rd {u : HO} (g : Go H A H' A') (hn : ¬ A a) (h : Rd H a u) : ¬ A' a ∧ Rd H' a u := by
  refine ⟨fun z => (g.ga a z).elim hn (rd_on h), ?_⟩
  rcases h with h | ⟨o, h⟩
  · exact .inl (g.eq a _ h hn)
  · exact .inr ⟨o, g.eq a _ h hn⟩
theorem Go.tup (g : Go H A H' A') (h : TupA K H A a vs) : TupA K H' A' a vs := by
  rcases h with ⟨n, h⟩ | h
  · exact .inl (g.rd n h)
  · exact .inr h
theorem Go.lst (g : Go H A H' A') (h : LstA K H A a vs) : LstA K H' A' a vs := g.rd h.1 h.2
mutual
theorem Go.rep (g : Go H A H' A') : ∀ (d : PyData) (v : V), RepD K H A d v → RepD K H' A' d v
  | .none, v, h => h
  | .bool _, v, h => h
  | .int _, v, h => h
  | .str _, v, h => h
  | .tuple xs, v, h => by
    unfold RepD at h ⊢
    obtain ⟨a, vs, e, t, z, r⟩ := h
    exact ⟨a, vs, e, g.tup t, z, Go.repL g xs vs r⟩
  | .list xs, v, h => by
    unfold RepD at h ⊢
    obtain ⟨a, vs, e, t, z, r⟩ := h
    exact ⟨a, vs, e, g.lst t, z, Go.repL g xs vs r⟩
  | .dict kvs, v, h => by
    unfold RepD at h ⊢
    obtain ⟨a, e, z, n, q⟩ := h
    exact ⟨a, e, z, fun q' => (g.ga a q').elim n (by rw [q]; exact fun z => nomatch z), g.eq a _ q n⟩
theorem Go.repL (g : Go H A H' A') : ∀ (ds : List PyData) (vs : List V), RepL K H A ds vs → RepL K H' A' ds vs
  | [], vs, h => h
  | d :: ds, vs, h => by
    unfold RepL at h ⊢
    obtain ⟨v, r, e, h1, h2⟩ := h
    exact ⟨v, r, e, Go.rep g d v h1, Go.repL g ds r h2⟩
end
theorem Go.refl : Go H A H A := ⟨fun _ _ h _ => h, fun _ h => .inl h⟩
theorem Go.less (h : ∀ a, A' a → A a) : Go H A H A' := ⟨fun _ _ h _ => h, fun a z => .inl (h a z)⟩
theorem Go.frm (f : Frm W H H') (hw : ∀ a, W a → A a) : Go H A H' A := ⟨fun a o e n => f.eq a o e fun z => n (hw a z), fun _ z => .inl z⟩
theorem Go.frm0 (f : Frm F0 H H') : Go H A H' A := Go.frm f fun _ z => z.elim

/-! ### lists of them -/
theorem RepL.length : ∀ {ds : List PyData} {vs : List V}, RepL K H A ds vs → vs.length = ds.length
  | [], vs, h => by unfold RepL at h; subst h; rfl
  | d :: ds, vs, h => by
    unfold RepL at h
    obtain ⟨v, r, e, _, h2⟩ := h
    rw [e, List.length_cons, List.length_cons, RepL.length h2]
theorem repL_nil : RepL K H A [] [] := by unfold RepL; rfl
theorem repL_cons {d : PyData} {v : V} {ds : List PyData} (h : RepD K H A d v) (hs : RepL K H A ds vs) : RepL K H A (d :: ds) (v :: vs) := by
  unfold RepL
  exact ⟨v, vs, rfl, h, hs⟩
theorem RepL.cons_inv {d : PyData} {v : V} {ds : List PyData} {r : List V} (h : RepL K H A (d :: ds) (v :: r)) : RepD K H A d v ∧ RepL K H A ds r := by
  unfold RepL at h
  obtain ⟨v', r', e, h1, h2⟩ := h
  cases e
  exact ⟨h1, h2⟩
theorem RepL.get : ∀ {ds : List PyData} {vs : List V} {i : Nat} {d : PyData}, RepL K H A ds vs → ds[i]? = some d → ∃ v, vs[i]? = some v ∧ RepD K H A d v
  | [], _, _, _, _, e => by simp at e
  | d :: ds, vs, i, x, h, e => by
    unfold RepL at h
    obtain ⟨v, r, q, h1, h2⟩ := h
    subst q
    cases i with
    | zero => simp at e; subst e; exact ⟨v, rfl, h1⟩
    | succ i => simpa using RepL.get (i := i) h2 (by simpa using e)
theorem RepL.get' : ∀ {ds : List PyData} {vs : List V} {i : Nat} {v : V}, RepL K H A ds vs → vs[i]? = some v → ∃ d, ds[i]? = some d ∧ RepD K H A d v
  | [], vs, _, _, h, e => by unfold RepL at h; subst h; simp at e
  | d :: ds, vs, i, x, h, e => by
    unfold RepL at h
    obtain ⟨v, r, q, h1, h2⟩ := h
    subst q
    cases i with
    | zero => simp at e; subst e; exact ⟨d, rfl, h1⟩
    | succ i => simpa using RepL.get' (i := i) h2 (by simpa using e)
theorem RepL.append : ∀ {ds : List PyData} {vs : List V} {es : List PyData} {ws : List V}, RepL K H A ds vs → RepL K H A es ws → RepL K H A (ds ++ es) (vs ++ ws)
  | [], vs, _, _, h, h' => by unfold RepL at h; subst h; exact h'
  | d :: ds, vs, es, ws, h, h' => by
    unfold RepL at h
    obtain ⟨v, r, q, h1, h2⟩ := h
    subst q
    exact repL_cons h1 (RepL.append h2 h')
theorem RepL.set : ∀ {ds : List PyData} {vs : List V} (i : Nat) {d : PyData} {v : V}, RepD K H A d v → RepL K H A ds vs → RepL K H A (ds.set i d) (vs.set i v)
  | [], vs, _, _, _, _, h => by unfold RepL at h; subst h; exact repL_nil
  | d :: ds, vs, i, x, y, hx, h => by
    unfold RepL at h
    obtain ⟨v, r, q, h1, h2⟩ := h
    subst q
    cases i with
    | zero => exact repL_cons hx h2
    | succ i => exact repL_cons h1 (RepL.set i hx h2)
theorem RepL.take : ∀ {ds : List PyData} {vs : List V} (i : Nat), RepL K H A ds vs → RepL K H A (ds.take i) (vs.take i)
  | [], vs, i, h => by unfold RepL at h; subst h; rw [List.take_nil, List.take_nil]; exact repL_nil
  | d :: ds, vs, i, h => by
    unfold RepL at h
    obtain ⟨v, r, q, h1, h2⟩ := h
    subst q
    cases i with
    | zero => exact repL_nil
    | succ i => exact repL_cons h1 (RepL.take i h2)
theorem RepL.drop : ∀ {ds : List PyData} {vs : List V} (i : Nat), RepL K H A ds vs → RepL K H A (ds.drop i) (vs.drop i)
  | [], vs, i, h => by unfold RepL at h; subst h; rw [List.drop_nil, List.drop_nil]; exact repL_nil
  | d :: ds, vs, i, h => by
    unfold RepL at h
    obtain ⟨v, r, q, h1, h2⟩ := h
    subst q
    cases i with
    | zero => exact repL_cons h1 h2
    | succ i => exact RepL.drop i h2
theorem RepL.eraseIdx : ∀ {ds : List PyData} {vs : List V} (i : Nat), RepL K H A ds vs → RepL K H A (ds.eraseIdx i) (vs.eraseIdx i)
  | [], vs, i, h => by unfold RepL at h; subst h; exact repL_nil
  | d :: ds, vs, i, h => by
    unfold RepL at h
    obtain ⟨v, r, q, h1, h2⟩ := h
    subst q
    cases i with
    | zero => exact h2
    | succ i => exact repL_cons h1 (RepL.eraseIdx i h2)
end

/-! ### a frame -/
inductive M where
  | lst (xs : List PyData)
inductive B where
  | u | v (d : PyData) | o (m : M)
abbrev Env' := List B
structure Gm where
  A : Addr → Prop
  W : Addr → Prop
  H : Hp
def ObjD (K : PySem.W.Frag) (H : Hp) (A : Addr → Prop) (a : Addr) : M → Prop
  | .lst xs => ∃ vs, H a = some (.lst vs) ∧ vs.length ≤ sizeLine ∧ RepL K H A xs vs
/-- the objects that the frame itself has made and may change -/
def Own (io : List Nat) (ad : Nat → Addr) (E : Env') (a : Addr) : Prop := ∃ (i : Nat) (m : M), i ∉ io ∧ E[i]? = some (B.o m) ∧ a = ad i
def Ao (Γ : Gm) (io : List Nat) (ad : Nat → Addr) (E : Env') (a : Addr) : Prop := Γ.A a ∨ Own io ad E a
def Wo (Γ : Gm) (io : List Nat) (ad : Nat → Addr) (E : Env') (a : Addr) : Prop := Γ.W a ∨ Own io ad E a
structure EOk (K : PySem.W.Frag) (Γ : Gm) (io : List Nat) (ad : Nat → Addr) (σ : L2.St) (H : Hp) (E : Env') : Prop where
  len : σ.length = E.length
  w : ∀ a, Γ.W a → Γ.A a
  oA : ∀ a, Γ.A a → H a ≠ none
  hk : ∀ a, Γ.H a ≠ none → H a ≠ none
  vl : ∀ (i : Nat) (d : PyData), E[i]? = some (B.v d) → ∃ v, σ[i]? = some (some v) ∧ RepD K H (Ao Γ io ad E) d v
  ob : ∀ (i : Nat) (m : M), E[i]? = some (B.o m) → σ[i]? = some (some (.ref (ad i))) ∧ ObjD K H (Ao Γ io ad E) (ad i) m
  obi : ∀ (i : Nat) (m : M), E[i]? = some (B.o m) → i ∈ io → Γ.W (ad i)
  obn : ∀ (i : Nat) (m : M), E[i]? = some (B.o m) → i ∉ io → Γ.H (ad i) = none ∧ ¬ Γ.A (ad i)
  inj : ∀ (i j : Nat) (m m' : M), E[i]? = some (B.o m) → E[j]? = some (B.o m') → ad i = ad j → i = j
/-- alike but for what own objects hold -/
def Sim (E E' : Env') : Prop := E'.length = E.length ∧ ∀ i : Nat, (∃ m m', E[i]? = some (B.o m) ∧ E'[i]? = some (B.o m')) ∨ ((∀ m, E[i]? ≠ some (B.o m)) ∧ E'[i]? = E[i]?)
theorem Sim.refl (E : Env') : Sim E E := by
  refine ⟨rfl, fun i => ?_⟩
  cases h : E[i]? with
  | none => exact .inr ⟨fun m z => (nomatch z), rfl⟩
  | some b => cases b with
    | o m => exact .inl ⟨m, m, rfl, rfl⟩
    | u => exact .inr ⟨fun m z => (nomatch z), rfl⟩
    | v d => exact .inr ⟨fun m z => (nomatch z), rfl⟩
theorem Sim.trans {E E1 E2 : Env'} (a : Sim E E1) (b : Sim E1 E2) : Sim E E2 := by
  refine ⟨b.1.trans a.1, fun i => ?_⟩
  rcases a.2 i with ⟨m, m', h1, h2⟩ | ⟨h1, h2⟩
  · rcases b.2 i with ⟨n, n', h3, h4⟩ | ⟨h3, h4⟩
    · exact .inl ⟨m, n', h1, h4⟩
    · exact absurd h2 (h3 m')
  · rcases b.2 i with ⟨n, n', h3, h4⟩ | ⟨h3, h4⟩
    · rw [h2] at h3; exact absurd h3 (h1 n)
    · exact .inr ⟨h1, h4.trans h2⟩
theorem Sim.own {E E' : Env'} (s : Sim E E') {i : Nat} : (∃ m, E'[i]? = some (B.o m)) ↔ ∃ m, E[i]? = some (B.o m) := by
  rcases s.2 i with ⟨m, m', h1, h2⟩ | ⟨h1, h2⟩
  · exact ⟨fun _ => ⟨m, h1⟩, fun _ => ⟨m', h2⟩⟩
  · rw [h2]
theorem Sim.Own {E E' : Env'} (s : Sim E E') {io : List Nat} {ad : Nat → Addr} : Own io ad E' = Own io ad E := by
  funext a
  refine propext ⟨fun ⟨i, m, h1, h2, h3⟩ => ?_, fun ⟨i, m, h1, h2, h3⟩ => ?_⟩
  · obtain ⟨m', q⟩ := s.own.mp ⟨m, h2⟩; exact ⟨i, m', h1, q, h3⟩
  · obtain ⟨m', q⟩ := s.own.mpr ⟨m, h2⟩; exact ⟨i, m', h1, q, h3⟩
theorem Sim.Ao {E E' : Env'} (s : Sim E E') {Γ : Gm} {io : List Nat} {ad : Nat → Addr} : Ao Γ io ad E' = Ao Γ io ad E := by
  funext a; unfold DL.Ao; rw [s.Own]
theorem Sim.Wo {E E' : Env'} (s : Sim E E') {Γ : Gm} {io : List Nat} {ad : Nat → Addr} : Wo Γ io ad E' = Wo Γ io ad E := by
  funext a; unfold DL.Wo; rw [s.Own]
section
variable {K : PySem.W.Frag} {Γ : Gm} {io : List Nat} {ad : Nat → Addr} {σ : L2.St} {H H' : Hp} {E E' : Env'} {W : Addr → Prop}
theorem EOk.wa (e : EOk K Γ io ad σ H E) : ∀ a, Wo Γ io ad E a → Ao Γ io ad E a := fun a h => h.elim (fun z => .inl (e.w a z)) .inr
theorem EOk.on (e : EOk K Γ io ad σ H E) : ∀ a, Ao Γ io ad E a → H a ≠ none := fun a h => by
  rcases h with h | ⟨i, m, h1, h2, rfl⟩
  · exact e.oA a h
  · obtain ⟨_, q⟩ := e.ob i m h2
    cases m with
    | lst xs => obtain ⟨vs, z, _⟩ := q; rw [z]; exact fun z => nomatch z
theorem EOk.wo (e : EOk K Γ io ad σ H E) {i : Nat} {m : M} (h : E[i]? = some (B.o m)) : Wo Γ io ad E (ad i) := by
  by_cases z : i ∈ io
  · exact .inl (e.obi i m h z)
  · exact .inr ⟨i, m, z, h, rfl⟩
/-- nothing but new things -/
theorem EOk.new (e : EOk K Γ io ad σ H E) (f : Frm F0 H H') : EOk K Γ io ad σ H' E where
  len := e.len
  w := e.w
  oA := fun a h => f.on a (e.oA a h)
  hk := fun a h => f.on a (e.hk a h)
  vl := fun i d h => let ⟨v, h1, h2⟩ := e.vl i d h; ⟨v, h1, (Go.frm0 f).rep d v h2⟩
  ob := fun i m h => by
    obtain ⟨h1, h2⟩ := e.ob i m h
    refine ⟨h1, ?_⟩
    cases m with
    | lst xs => obtain ⟨vs, z, z1, z2⟩ := h2; exact ⟨vs, f.eq _ _ z id, z1, (Go.frm0 f).repL xs vs z2⟩
  obi := e.obi
  obn := e.obn
  inj := e.inj
/-- less that may change -/
theorem EOk.less {Γ' : Gm} (e : EOk K Γ io ad σ H E) (hA : ∀ a, Γ'.A a → Γ.A a) (hW : Γ'.W = Γ.W) (hw : ∀ a, Γ'.W a → Γ'.A a) (hH : Γ'.H = Γ.H) : EOk K Γ' io ad σ H E where
  len := e.len
  w := hw
  oA := fun a h => e.oA a (hA a h)
  hk := fun a h => e.hk a (by rw [← hH]; exact h)
  vl := fun i d h => let ⟨v, h1, h2⟩ := e.vl i d h; ⟨v, h1, (Go.less (fun a z => z.elim (fun z => .inl (hA a z)) .inr)).rep d v h2⟩
  ob := fun i m h => by
    obtain ⟨h1, h2⟩ := e.ob i m h
    refine ⟨h1, ?_⟩
    cases m with
    | lst xs => obtain ⟨vs, z, z1, z2⟩ := h2; exact ⟨vs, z, z1, (Go.less (fun a z => z.elim (fun z => .inl (hA a z)) .inr)).repL xs vs z2⟩
  obi := fun i m h hi => by rw [hW]; exact e.obi i m h hi
  obn := fun i m h hi => ⟨by rw [hH]; exact (e.obn i m h hi).1, fun z => (e.obn i m h hi).2 (hA _ z)⟩
  inj := e.inj
/-- an own object is written -/
theorem EOk.put (e : EOk K Γ io ad σ H E) {i : Nat} {m : M} {xs : List PyData} {vs : List V} (h : E[i]? = some (B.o m)) (hz : vs.length ≤ sizeLine) (r : RepL K H (Ao Γ io ad E) xs vs) :
    EOk K Γ io ad σ (upd H (ad i) (.lst vs)) (E.set i (B.o (.lst xs))) ∧ Frm (Wo Γ io ad E) H (upd H (ad i) (.lst vs)) ∧ Sim E (E.set i (B.o (.lst xs))) := by
  have hi : i < E.length := (List.getElem?_eq_some_iff.mp h).1
  have hs : Sim E (E.set i (B.o (.lst xs))) := by
    refine ⟨List.length_set, fun j => ?_⟩
    by_cases q : i = j
    · subst q
      exact .inl ⟨m, _, h, List.getElem?_set_self hi⟩
    · rw [List.getElem?_set_ne q]
      exact (Sim.refl E).2 j
  have f : Frm (Wo Γ io ad E) H (upd H (ad i) (.lst vs)) := Frm.put (e.wo h)
  have hA : Ao Γ io ad (E.set i (B.o (.lst xs))) = Ao Γ io ad E := hs.Ao
  have g : Go H (Ao Γ io ad E) (upd H (ad i) (.lst vs)) (Ao Γ io ad E) := Go.frm f e.wa
  have back : ∀ (j : Nat) (m' : M), (E.set i (B.o (.lst xs)))[j]? = some (B.o m') → ∃ m2, E[j]? = some (B.o m2) := fun j m' z => hs.own.mp ⟨m', z⟩
  refine ⟨⟨by rw [List.length_set]; exact e.len, e.w, fun a h => f.on a (e.oA a h), fun a h => f.on a (e.hk a h), fun j d z => ?_, fun j m' z => ?_, fun j m' z hj => ?_, fun j m' z hj => ?_, fun j k m' m2 z1 z2 => ?_⟩, f, hs⟩
  · have q : i ≠ j := fun q => by
      subst q
      rw [List.getElem?_set_self hi] at z
      cases z
    rw [List.getElem?_set_ne q] at z
    obtain ⟨v, h1, h2⟩ := e.vl j d z
    exact ⟨v, h1, by rw [hA]; exact g.rep d v h2⟩
  · by_cases q : i = j
    · subst q
      rw [List.getElem?_set_self hi] at z
      cases z
      exact ⟨(e.ob i m h).1, vs, upd_same, hz, by rw [hA]; exact g.repL xs vs r⟩
    · rw [List.getElem?_set_ne q] at z
      obtain ⟨h1, h2⟩ := e.ob j m' z
      refine ⟨h1, ?_⟩
      have ne : ad j ≠ ad i := fun z' => q (e.inj i j m m' h z z'.symm)
      cases m' with
      | lst ys => obtain ⟨ws, z0, z1, z2⟩ := h2; exact ⟨ws, by rw [upd_ne ne]; exact z0, z1, by rw [hA]; exact g.repL ys ws z2⟩
  · obtain ⟨m2, z2⟩ := back j m' z; exact e.obi j m2 z2 hj
  · obtain ⟨m2, z2⟩ := back j m' z; exact e.obn j m2 z2 hj
  · obtain ⟨m3, z3⟩ := back j m' z1
    obtain ⟨m4, z4⟩ := back k m2 z2
    exact e.inj j k m3 m4 z3 z4
theorem Go.of_new (f : Frm F0 H H') {A : Addr → Prop} : Go H A H' A := Go.frm0 f
end
end DL

namespace DL
open PySem PySem.Spec PyProof.Rows L2

theorem _root_.L2.PE.imp {X : Cx} {e : Expr} {t t' : TE} (h : PE X e t) (k : ∀ σ H Q, t' σ H Q → t σ H Q) : PE X e t' := ⟨fun pins s σ H Q I w => h.run pins s σ H Q I (k σ H Q w)⟩
theorem _root_.L2.PT.imp {X : Cx} {e : Expr} {t t' : TT} (h : PT X e t) (k : ∀ σ H Q, t' σ H Q → t σ H Q) : PT X e t' := ⟨fun pins s σ H Q I w => h.run pins s σ H Q I (k σ H Q w)⟩
theorem _root_.L2.PW.imp {X : Cx} {e : Expr} {t t' : TT} (h : PW X e t) (k : ∀ σ H Q, t' σ H Q → t σ H Q) : PW X e t' := ⟨fun wh pins s σ H Q I w => h.run wh pins s σ H Q I (k σ H Q w)⟩
theorem _root_.L2.PA.imp {X : Cx} {es : List Expr} {t t' : TA} (h : PA X es t) (k : ∀ σ H Q, t' σ H Q → t σ H Q) : PA X es t' := ⟨fun pos pins s σ H Q I w => h.run pos pins s σ H Q I (k σ H Q w)⟩
theorem _root_.L2.PS.imp {X : Cx} {st : Stmt} {t t' : TS} (h : PS X st t) (k : ∀ D σ H, t' D σ H → t D σ H) : PS X st t' := ⟨fun pins s σ H D I w => h.run pins s σ H D I (k D σ H w)⟩
theorem _root_.L2.PSs.imp {X : Cx} {st : List Stmt} {t t' : TS} (h : PSs X st t) (k : ∀ D σ H, t' D σ H → t D σ H) : PSs X st t' := ⟨fun pins s σ H D I w => h.run pins s σ H D I (k D σ H w)⟩
theorem _root_.L2.PO.imp {X : Cx} {e : Option Expr} {t t' : TO} (h : PO X e t) (k : ∀ σ H Q, t' σ H Q → t σ H Q) : PO X e t' := ⟨fun pins s σ H Q I w => h.run pins s σ H Q I (k σ H Q w)⟩

/-! ### what is evaluated: α, over the frame -/
abbrev Ev (α : Type) := Env' → Option (α × Env')
abbrev Ef := Ev PyData
/-- a reading that comes to some α, which stands by R at the heap behind it -/
def rd {α ν : Type} (R : Gm → List Nat → (Nat → Addr) → Env' → PySem.W.Frag → Hp → (Addr → Prop) → α → ν → Prop) (K : PySem.W.Frag) (io : List Nat) (f : Ev α) : L2.St → Hp → (ν → Hp → Prop) → Prop := fun σ H Q =>
  ∃ Γ ad E d E', EOk K Γ io ad σ H E ∧ f E = some (d, E') ∧ ∀ v H', Frm (Wo Γ io ad E) H H' → EOk K Γ io ad σ H' E' → Sim E E' → R Γ io ad E' K H' (Ao Γ io ad E) d v → Q v H'
abbrev tD : PySem.W.Frag → List Nat → Ef → TE := rd fun _ _ _ _ K H A d v => RepD K H A d v
abbrev cD : PySem.W.Frag → List Nat → Ev Bool → TT := rd fun _ _ _ _ _ _ _ b c => b = c
/-- an argument: a thing, or an own object by its slot -/
inductive G where
  | v (d : PyData) | s (i : Nat)
def RepG (ad : Nat → Addr) (K : PySem.W.Frag) (H : Hp) (A : Addr → Prop) : List G → List V → Prop
  | [], vs => vs = []
  | .v d :: gs, vs => ∃ v r, vs = v :: r ∧ RepD K H A d v ∧ RepG ad K H A gs r
  | .s i :: gs, vs => ∃ r, vs = .ref (ad i) :: r ∧ RepG ad K H A gs r
abbrev aD : PySem.W.Frag → List Nat → Ev (List G) → TA := rd fun _ _ ad _ K H A gs vs => RepG ad K H A gs vs
abbrev oD : PySem.W.Frag → List Nat → Ev (Option Int) → TO := rd fun _ _ _ _ _ _ _ b c => b = c
theorem Go.repG {K : PySem.W.Frag} {H H' : Hp} {A A' : Addr → Prop} {ad : Nat → Addr} (g : Go H A H' A') : ∀ (gs : List G) (vs : List V), RepG ad K H A gs vs → RepG ad K H' A' gs vs
  | [], _, h => h
  | .v d :: gs, vs, h => by
    obtain ⟨v, r, e, h1, h2⟩ := h
    exact ⟨v, r, e, g.rep d v h1, Go.repG g gs r h2⟩
  | .s i :: gs, vs, h => by
    obtain ⟨r, e, h2⟩ := h
    exact ⟨r, e, Go.repG g gs r h2⟩

/-- one evaluated, then what follows -/
theorem rd_then {α ν β μ : Type} {R : Gm → List Nat → (Nat → Addr) → Env' → PySem.W.Frag → Hp → (Addr → Prop) → α → ν → Prop} {S : Gm → List Nat → (Nat → Addr) → Env' → PySem.W.Frag → Hp → (Addr → Prop) → β → μ → Prop}
    {K : PySem.W.Frag} {io : List Nat} {f : Ev α} {g : α → Ev β} {h : Ev β} (eh : ∀ E, h E = (f E).bind fun r => g r.1 r.2) {σ : L2.St} {H : Hp} {Q : μ → Hp → Prop} {Q1 : ν → Hp → Prop} (w : rd S K io h σ H Q)
    (k : ∀ Γ ad E x v H1 y E1 E2, f E = some (x, E1) → g x E1 = some (y, E2) → EOk K Γ io ad σ H1 E1 → Frm (Wo Γ io ad E) H H1 → Sim E E1 → R Γ io ad E1 K H1 (Ao Γ io ad E) x v →
      (∀ u H2, Frm (Wo Γ io ad E1) H1 H2 → EOk K Γ io ad σ H2 E2 → Sim E1 E2 → S Γ io ad E2 K H2 (Ao Γ io ad E1) y u → Q u H2) → Q1 v H1) : rd R K io f σ H Q1 := by
  obtain ⟨Γ, ad, E, d, E', ok, he, q⟩ := w
  rw [eh] at he
  obtain ⟨⟨x, E1⟩, h1, h2⟩ := Option.bind_eq_some_iff.mp he
  refine ⟨Γ, ad, E, x, E1, ok, h1, fun v H1 fr ok1 sim r => k Γ ad E x v H1 d E1 E' h1 h2 ok1 fr sim r fun u H2 fr2 ok2 sim2 r2 => ?_⟩
  rw [sim.Wo] at fr2
  rw [sim.Ao] at r2
  exact q u H2 (fr.trans' fr2) ok2 (sim.trans sim2) r2
section
variable {X : Cx} {io : List Nat} {a b : Expr} {fa fb : Ef} {pos : Pos}
/-! ### leaves -/
def fV (i : Nat) : Ef := fun E => match E[i]? with
  | some (B.v d) => some (d, E)
  | _ => none
theorem de_var {i : Nat} {x : Str} (h : PE X (.Name x pos) (tVar i)) : PE X (.Name x pos) (tD X.K io (fV i)) := h.imp fun σ H Q w => by
  obtain ⟨Γ, ad, E, d, E', ok, he, q⟩ := w
  unfold fV at he
  split at he
  · rename_i d' hd
    cases he
    obtain ⟨v, hv, hr⟩ := ok.vl i d hd
    exact ⟨v, hv, q v H Frm.refl ok (Sim.refl E) hr⟩
  · cases he
def fC (d : PyData) : Ef := fun E => some (d, E)
theorem de_c {e : Expr} {v : V} {d : PyData} (h : PE X e (tC v)) (r : ∀ H A, RepD X.K H A d v) : PE X e (tD X.K io (fC d)) := h.imp fun σ H Q w => by
  obtain ⟨Γ, ad, E, d', E', ok, he, q⟩ := w
  cases he
  exact q v H Frm.refl ok (Sim.refl E) (r H _)
theorem rep_non {K : PySem.W.Frag} {H : Hp} {A : Addr → Prop} : RepD K H A .none .non := by unfold RepD; rfl
theorem rep_bl {K : PySem.W.Frag} {H : Hp} {A : Addr → Prop} {b : Bool} : RepD K H A (.bool b) (.bl b) := by unfold RepD; rfl
theorem rep_int {K : PySem.W.Frag} {H : Hp} {A : Addr → Prop} {i : Int} : RepD K H A (.int i) (.int i) := by unfold RepD; rfl
theorem rep_str {K : PySem.W.Frag} {H : Hp} {A : Addr → Prop} {x : Str} (h : x.length ≤ sizeLine) : RepD K H A (.str x) (.str x) := by unfold RepD; exact ⟨rfl, h⟩
theorem de_int {i : Int} {j : Nat} : PE X (.Constant (.int i) j pos) (tD X.K io (fC (.int i))) := de_c pe_int fun _ _ => rep_int
theorem de_bl {i : Bool} {j : Nat} : PE X (.Constant (.bool i) j pos) (tD X.K io (fC (.bool i))) := de_c pe_bl fun _ _ => rep_bl
theorem de_non {j : Nat} : PE X (.Constant .none j pos) (tD X.K io (fC .none)) := de_c pe_non fun _ _ => rep_non
theorem de_str {x : Str} {j : Nat} (h : x.length ≤ sizeLine) : PE X (.Constant (.str x) j pos) (tD X.K io (fC (.str x))) := de_c pe_str fun _ _ => rep_str h

/-! ### one, two operands -/
def f1 {α β : Type} (g : α → Option β) (fa : Ev α) : Ev β := fun E => (fa E).bind fun r => (g r.1).map fun z => (z, r.2)
def f2 {α β γ : Type} (g : α → β → Option γ) (fa : Ev α) (fb : Ev β) : Ev γ := fun E => (fa E).bind fun r => (fb r.2).bind fun s => (g r.1 s.1).map fun z => (z, s.2)
/-- a thing that is read now; a list may be one that changes later -/
inductive RepS (K : PySem.W.Frag) (H : Hp) (A : Addr → Prop) : PyData → V → Prop where
  | d {x : PyData} {v : V} (h : RepD K H A x v) : RepS K H A x v
  | l {a : Addr} {xs : List PyData} {vs : List V} (h : Rd H a (.lst vs)) (z : vs.length ≤ sizeLine) (r : RepL K H A xs vs) : RepS K H A (.list xs) (.ref a)
/-- a rule by values, told by what it does to things -/
def RS (K : PySem.W.Frag) (r : R2) (g : PyData → PyData → Option PyData) : Prop := ∀ (H : Hp) (A : Addr → Prop) (x y z : PyData) (vx vy : V) (Q : VK), (∀ a, A a → H a ≠ none) → RepS K H A x vx → RepS K H A y vy → g x y = some z →
  (∀ v H', Frm F0 H H' → RepD K H' A z v → Q v H') → r vx vy H Q
def US (K : PySem.W.Frag) (r : V → Hp → VK → Prop) (g : PyData → Option PyData) : Prop := ∀ (H : Hp) (A : Addr → Prop) (x z : PyData) (vx : V) (Q : VK), (∀ a, A a → H a ≠ none) → RepS K H A x vx → g x = some z →
  (∀ v H', Frm F0 H H' → RepD K H' A z v → Q v H') → r vx H Q
theorem td2 {r : R2} {g : PyData → PyData → Option PyData} (hr : RS X.K r g) {σ : L2.St} {H : Hp} {Q : VK} (w : tD X.K io (f2 g fa fb) σ H Q) : tOp r (tD X.K io fa) (tD X.K io fb) σ H Q := by
  show tD X.K io fa σ H fun x H1 => tD X.K io fb σ H1 fun y H2 => r x y H2 Q
  refine rd_then (f := fa) (g := fun x E1 => (fb E1).bind fun s => (g x s.1).map fun z => (z, s.2)) (fun _ => rfl) w fun Γ ad E x vx H1 y E1 E2 h1 h2 ok1 fr1 sim1 r1 k => ?_
  obtain ⟨⟨y', E3⟩, h3, h4⟩ := Option.bind_eq_some_iff.mp h2
  refine ⟨Γ, ad, E1, y', E3, ok1, h3, fun vy H2 fr2 ok2 sim2 r2 => ?_⟩
  obtain ⟨z, hz, e⟩ := Option.map_eq_some_iff.mp h4
  cases e
  rw [sim1.Ao] at r2
  have r1' := (Go.frm fr2 ok1.wa).rep x vx (by rw [sim1.Ao]; exact r1)
  rw [sim1.Ao] at r1'
  refine hr H2 _ x y' y vx vy Q (fun a h => ok2.on a (by rw [sim2.Ao, sim1.Ao]; exact h)) (.d r1') (.d r2) hz fun v H3 fr3 r3 => ?_
  exact k v H3 (fr2.trans' fr3.of0) (ok2.new fr3) sim2 (by rw [sim1.Ao]; exact r3)
theorem de_bin {op : Operator} {r : R2} {g : PyData → PyData → Option PyData} (ho : OpR X (binaryOp op) r) (hr : RS X.K r g) (ha : PE X a (tD X.K io fa)) (hb : PE X b (tD X.K io fb)) :
    PE X (.BinOp a op b pos) (tD X.K io (f2 g fa fb)) := (pe_op ho ha hb).imp fun _ _ _ => td2 hr
theorem de_cmp {op : CmpOp} {r : R2} {g : PyData → PyData → Option PyData} (ho : OpR X (compareOp op) r) (hr : RS X.K r g) (ha : PE X a (tD X.K io fa)) (hb : PE X b (tD X.K io fb)) (hm : behindInMarks op b = false) :
    PE X (.Compare a [op] [b] pos) (tD X.K io (f2 g fa fb)) := (pe_cmpR ho ha hb hm).imp fun _ _ _ => td2 hr
theorem de_ix {r : R2} {g : PyData → PyData → Option PyData} (ho : IxR X r) (hr : RS X.K r g) (ha : PE X a (tD X.K io fa)) (hb : PE X b (tD X.K io fb)) (hs : PlainIx b) :
    PE X (.Subscript a b pos) (tD X.K io (f2 g fa fb)) := (pe_ix ho ha hb hs).imp fun _ _ _ => td2 hr
theorem td1 {r : V → Hp → VK → Prop} {g : PyData → Option PyData} (hr : US X.K r g) {σ : L2.St} {H : Hp} {Q : VK} (w : tD X.K io (f1 g fa) σ H Q) : tD X.K io fa σ H fun x H1 => r x H1 Q := by
  refine rd_then (f := fa) (g := fun x E1 => (g x).map fun z => (z, E1)) (fun _ => rfl) w fun Γ ad E x vx H1 y E1 E2 h1 h2 ok1 fr1 sim1 r1 k => ?_
  obtain ⟨z, hz, e⟩ := Option.map_eq_some_iff.mp h2
  cases e
  refine hr H1 _ x y vx Q (fun a h => ok1.on a (by rw [sim1.Ao]; exact h)) (.d r1) hz fun v H3 fr3 r3 => ?_
  exact k v H3 fr3.of0 (ok1.new fr3) (Sim.refl _) (by rw [sim1.Ao]; exact r3)
/-! ### an own list as an operand: read when the others are there -/
def ownL (i : Nat) (E : Env') : Option PyData := match E[i]? with
  | some (B.o (.lst xs)) => some (.list xs)
  | _ => none
theorem ownL_rep {K : PySem.W.Frag} {Γ : Gm} {ad : Nat → Addr} {σ : L2.St} {H : Hp} {E : Env'} (ok : EOk K Γ io ad σ H E) {i : Nat} {d : PyData} (h : ownL i E = some d) : σ[i]? = some (some (.ref (ad i))) ∧ RepS K H (Ao Γ io ad E) d (.ref (ad i)) := by
  unfold ownL at h
  split at h
  · rename_i xs hd
    cases h
    obtain ⟨h1, vs, h2, h3, h4⟩ := ok.ob i _ hd
    exact ⟨h1, .l (.inl h2) h3 h4⟩
  · cases h
def f1s {β : Type} (g : PyData → Option β) (i : Nat) : Ev β := fun E => (ownL i E).bind fun x => (g x).map fun z => (z, E)
def f2l {γ : Type} (g : PyData → PyData → Option γ) (i : Nat) (fb : Ef) : Ev γ := fun E => (ownL i E).bind fun _ => (fb E).bind fun s => (ownL i s.2).bind fun x => (g x s.1).map fun z => (z, s.2)
def f2r {γ : Type} (g : PyData → PyData → Option γ) (fa : Ef) (i : Nat) : Ev γ := fun E => (fa E).bind fun s => (ownL i s.2).bind fun y => (g s.1 y).map fun z => (z, s.2)
theorem td1s {r : V → Hp → VK → Prop} {g : PyData → Option PyData} {i : Nat} (hr : US X.K r g) {σ : L2.St} {H : Hp} {Q : VK} (w : tD X.K io (f1s g i) σ H Q) : tVar i σ H fun x H1 => r x H1 Q := by
  obtain ⟨Γ, ad, E, d, E', ok, he, q⟩ := w
  obtain ⟨x, h1, h2⟩ := Option.bind_eq_some_iff.mp he
  obtain ⟨z, hz, e⟩ := Option.map_eq_some_iff.mp h2
  cases e
  obtain ⟨e1, r1⟩ := ownL_rep ok h1
  exact ⟨_, e1, hr H _ x d _ Q ok.on r1 hz fun v H3 fr3 r3 => q v H3 fr3.of0 (ok.new fr3) (Sim.refl _) r3⟩
theorem td2l {r : R2} {g : PyData → PyData → Option PyData} {i : Nat} (hr : RS X.K r g) {σ : L2.St} {H : Hp} {Q : VK} (w : tD X.K io (f2l g i fb) σ H Q) : tOp r (tVar i) (tD X.K io fb) σ H Q := by
  obtain ⟨Γ, ad, E, d, E', ok, he, q⟩ := w
  obtain ⟨x0, h0, he⟩ := Option.bind_eq_some_iff.mp he
  obtain ⟨⟨y, E1⟩, h1, h2⟩ := Option.bind_eq_some_iff.mp he
  obtain ⟨x, h3, h4⟩ := Option.bind_eq_some_iff.mp h2
  obtain ⟨z, hz, e⟩ := Option.map_eq_some_iff.mp h4
  cases e
  refine ⟨_, (ownL_rep ok h0).1, Γ, ad, E, y, E1, ok, h1, fun vy H1 fr1 ok1 sim1 r1 => ?_⟩
  obtain ⟨_, r2⟩ := ownL_rep ok1 h3
  rw [sim1.Ao] at r2
  exact hr H1 _ x y d _ vy Q (fun a h => ok1.on a (by rw [sim1.Ao]; exact h)) r2 (.d r1) hz fun v H3 fr3 r3 => q v H3 (fr1.trans' fr3.of0) (ok1.new fr3) sim1 r3
theorem td2r {r : R2} {g : PyData → PyData → Option PyData} {i : Nat} (hr : RS X.K r g) {σ : L2.St} {H : Hp} {Q : VK} (w : tD X.K io (f2r g fa i) σ H Q) : tOp r (tD X.K io fa) (tVar i) σ H Q := by
  obtain ⟨Γ, ad, E, d, E', ok, he, q⟩ := w
  obtain ⟨⟨x, E1⟩, h1, h2⟩ := Option.bind_eq_some_iff.mp he
  obtain ⟨y, h3, h4⟩ := Option.bind_eq_some_iff.mp h2
  obtain ⟨z, hz, e⟩ := Option.map_eq_some_iff.mp h4
  cases e
  refine ⟨Γ, ad, E, x, E1, ok, h1, fun vx H1 fr1 ok1 sim1 r1 => ?_⟩
  obtain ⟨e2, r2⟩ := ownL_rep ok1 h3
  rw [sim1.Ao] at r2
  exact ⟨_, e2, hr H1 _ x y d vx _ Q (fun a h => ok1.on a (by rw [sim1.Ao]; exact h)) (.d r1) r2 hz fun v H3 fr3 r3 => q v H3 (fr1.trans' fr3.of0) (ok1.new fr3) sim1 r3⟩

/-! ### arguments of built-in functions -/
abbrev Af := Ev (List G)
def aNil : Af := fun E => some ([], E)
def aV (fe : Ef) (fr : Af) : Af := fun E => (fe E).bind fun r => (fr r.2).map fun s => (.v r.1 :: s.1, s.2)
def aS (i : Nat) (fr : Af) : Af := fun E => match E[i]? with
  | some (B.o _) => (fr E).map fun s => (.s i :: s.1, s.2)
  | _ => none
variable {es : List Expr} {e : Expr} {fr : Af}
theorem da_nil : PA X [] (aD X.K io aNil) := pa_nil.imp fun σ H Q w => by
  obtain ⟨Γ, ad, E, d, E', ok, he, q⟩ := w
  cases he
  exact q [] H Frm.refl ok (Sim.refl E) (by unfold RepG; rfl)
theorem da_v (he : PE X e (tD X.K io fa)) (hr : PA X es (aD X.K io fr)) (hs : starEach (e :: es) X.env = (false, eval e X.env) :: starEach es X.env := by rfl) : PA X (e :: es) (aD X.K io (aV fa fr)) :=
  (pa_cons he hr hs).imp fun σ H Q w => by
    show tD X.K io fa σ H fun x H1 => aD X.K io fr σ H1 fun xs H2 => Q (x :: xs) H2
    refine rd_then (f := fa) (g := fun x E1 => (fr E1).map fun s => (.v x :: s.1, s.2)) (fun _ => rfl) w fun Γ ad E x vx H1 y E1 E2 h1 h2 ok1 fr1 sim1 r1 k => ?_
    obtain ⟨⟨gs, E3⟩, h3, h4⟩ := Option.map_eq_some_iff.mp h2
    cases h4
    refine ⟨Γ, ad, E1, gs, E3, ok1, h3, fun vs H2 fr2 ok2 sim2 r2 => k _ H2 fr2 ok2 sim2 ?_⟩
    rw [sim1.Ao] at r2 ⊢
    have r1' := (Go.frm fr2 ok1.wa).rep x vx (by rw [sim1.Ao]; exact r1)
    rw [sim1.Ao] at r1'
    exact ⟨vx, vs, rfl, r1', r2⟩
theorem da_s {i : Nat} (he : PE X e (tVar i)) (hr : PA X es (aD X.K io fr)) (hs : starEach (e :: es) X.env = (false, eval e X.env) :: starEach es X.env := by rfl) : PA X (e :: es) (aD X.K io (aS i fr)) :=
  (pa_cons he hr hs).imp fun σ H Q w => by
    obtain ⟨Γ, ad, E, d, E', ok, he, q⟩ := w
    unfold aS at he
    split at he
    · rename_i m hd
      obtain ⟨⟨gs, E3⟩, h3, h4⟩ := Option.map_eq_some_iff.mp he
      cases h4
      refine ⟨_, (ok.ob i m hd).1, Γ, ad, E, gs, E3, ok, h3, fun vs H2 fr2 ok2 sim2 r2 => q _ H2 fr2 ok2 sim2 ?_⟩
      exact ⟨vs, rfl, r2⟩
    · cases he
/-- what an argument is when all are there -/
def resG (E : Env') : G → Option PyData
  | .v d => some d
  | .s i => ownL i E
def resAll (E : Env') : List G → Option (List PyData)
  | [] => some []
  | g :: gs => (resG E g).bind fun d => (resAll E gs).map fun ds => d :: ds
def fB {β : Type} (g : List PyData → Option β) (args : Af) : Ev β := fun E => (args E).bind fun r => (resAll r.2 r.1).bind fun ds => (g ds).map fun z => (z, r.2)
inductive RepSL (K : PySem.W.Frag) (H : Hp) (A : Addr → Prop) : List PyData → List V → Prop where
  | nil : RepSL K H A [] []
  | cons {d : PyData} {v : V} {ds : List PyData} {vs : List V} (h : RepS K H A d v) (hs : RepSL K H A ds vs) : RepSL K H A (d :: ds) (v :: vs)
theorem RepSL.one {K : PySem.W.Frag} {H : Hp} {A : Addr → Prop} {d : PyData} {vs : List V} (h : RepSL K H A [d] vs) : ∃ v, vs = [v] ∧ RepS K H A d v := by
  cases h with
  | cons h hs => cases hs; exact ⟨_, rfl, h⟩
theorem RepSL.two {K : PySem.W.Frag} {H : Hp} {A : Addr → Prop} {d e : PyData} {vs : List V} (h : RepSL K H A [d, e] vs) : ∃ v u, vs = [v, u] ∧ RepS K H A d v ∧ RepS K H A e u := by
  cases h with
  | cons h hs => cases hs with
    | cons h2 hs => cases hs; exact ⟨_, _, rfl, h, h2⟩
theorem res_rep {K : PySem.W.Frag} {Γ : Gm} {ad : Nat → Addr} {σ : L2.St} {H : Hp} {E : Env'} (ok : EOk K Γ io ad σ H E) : ∀ {gs : List G} {ds : List PyData} {vs : List V}, resAll E gs = some ds → RepG ad K H (Ao Γ io ad E) gs vs → RepSL K H (Ao Γ io ad E) ds vs
  | [], ds, vs, h, r => by cases h; unfold RepG at r; subst r; exact .nil
  | .v d :: gs, ds, vs, h, r => by
    obtain ⟨d', h1, h2⟩ := Option.bind_eq_some_iff.mp h
    obtain ⟨ds', h3, h4⟩ := Option.map_eq_some_iff.mp h2
    cases h1
    subst h4
    obtain ⟨v, r', e, r1, r2⟩ := r
    subst e
    exact .cons (.d r1) (res_rep ok h3 r2)
  | .s i :: gs, ds, vs, h, r => by
    obtain ⟨d', h1, h2⟩ := Option.bind_eq_some_iff.mp h
    obtain ⟨ds', h3, h4⟩ := Option.map_eq_some_iff.mp h2
    subst h4
    obtain ⟨r', e, r2⟩ := r
    subst e
    exact .cons (ownL_rep ok h1).2 (res_rep ok h3 r2)
def CS (K : PySem.W.Frag) (r : List V → Hp → VK → Prop) (g : List PyData → Option PyData) : Prop := ∀ (H : Hp) (A : Addr → Prop) (ds : List PyData) (z : PyData) (vs : List V) (Q : VK), (∀ a, A a → H a ≠ none) → RepSL K H A ds vs → g ds = some z →
  (∀ v H', Frm F0 H H' → RepD K H' A z v → Q v H') → r vs H Q
theorem tdB {r : List V → Hp → VK → Prop} {g : List PyData → Option PyData} (hr : CS X.K r g) {σ : L2.St} {H : Hp} {Q : VK} (w : tD X.K io (fB g fr) σ H Q) : aD X.K io fr σ H fun vs H1 => r vs H1 Q := by
  refine rd_then (f := fr) (g := fun x E1 => (resAll E1 x).bind fun ds => (g ds).map fun z => (z, E1)) (fun _ => rfl) w fun Γ ad E x vx H1 y E1 E2 h1 h2 ok1 fr1 sim1 r1 k => ?_
  obtain ⟨ds, h3, h4⟩ := Option.bind_eq_some_iff.mp h2
  obtain ⟨z, hz, e⟩ := Option.map_eq_some_iff.mp h4
  cases e
  refine hr H1 _ ds y vx Q ok1.on (res_rep ok1 h3 (by rw [sim1.Ao]; exact r1)) hz fun v H3 fr3 r3 => ?_
  exact k v H3 fr3.of0 (ok1.new fr3) (Sim.refl _) r3
theorem de_callB {id : String} {x : Str} {p : Pos} {r : List V → Hp → VK → Prop} {g : List PyData → Option PyData} (hc : CallR X (.builtin id) r) (hr : CS X.K r g) (hg : Gl X x) (hm : X.mg x = none) (hv : bootBuiltins x = some (.builtin id)) (ha : PA X (e :: es) (aD X.K io fr)) (hn : x ≠ "__name__" := by decide) (hdb : (x == ("__debug__" : Str)) = false := by decide)
    (he : starEach (e :: es) X.env = (false, eval e X.env) :: starEach es X.env := by rfl) (hpl : (backTo pos (starEach es X.env)).any (·.1) = false := by rfl) : PE X (.Call (.Name x p) (e :: es) [] pos) (tD X.K io (fB g fr)) :=
  (pe_callB hc hg hm hv ha hn hdb he hpl).imp fun _ _ _ => tdB hr
theorem de_callTy {T : String} {x : Str} {p : Pos} {r : List V → Hp → VK → Prop} {g : List PyData → Option PyData} (hc : CallR X (.type T) r) (hr : CS X.K r g) (hg : Gl X x) (hm : X.mg x = none) (hv : bootBuiltins x = some (.type T)) (ha : PA X (e :: es) (aD X.K io fr)) (hn : x ≠ "__name__" := by decide) (hdb : (x == ("__debug__" : Str)) = false := by decide)
    (he : starEach (e :: es) X.env = (false, eval e X.env) :: starEach es X.env := by rfl) (hpl : (backTo pos (starEach es X.env)).any (·.1) = false := by rfl) : PE X (.Call (.Name x p) (e :: es) [] pos) (tD X.K io (fB g fr)) :=
  (pe_callTy hc hg hm hv ha hn hdb he hpl).imp fun _ _ _ => tdB hr
end
end DL

namespace DL
open PySem PySem.Spec PyProof.Rows L2

section
variable {X : Cx} {K : PySem.W.Frag} {H : Hp} {A : Addr → Prop}
theorem RepD.int {i : Int} {v : V} (h : RepD K H A (.int i) v) : v = .int i := by unfold RepD at h; exact h
theorem RepD.bl {i : Bool} {v : V} (h : RepD K H A (.bool i) v) : v = .bl i := by unfold RepD at h; exact h
theorem RepD.non {v : V} (h : RepD K H A .none v) : v = .non := by unfold RepD at h; exact h
theorem RepD.str {x : Str} {v : V} (h : RepD K H A (.str x) v) : v = .str x ∧ x.length ≤ sizeLine := by unfold RepD at h; exact h
theorem RepD.tup {xs : List PyData} {v : V} (h : RepD K H A (.tuple xs) v) : ∃ a vs, v = .ref a ∧ TupA K H A a vs ∧ vs.length ≤ sizeLine ∧ RepL K H A xs vs := by unfold RepD at h; exact h
theorem RepD.lst {xs : List PyData} {v : V} (h : RepD K H A (.list xs) v) : ∃ a vs, v = .ref a ∧ LstA K H A a vs ∧ vs.length ≤ sizeLine ∧ RepL K H A xs vs := by unfold RepD at h; exact h
theorem RepD.dic {xs : List (PyData × PyData)} {v : V} (h : RepD K H A (.dict xs) v) : ∃ a, v = .ref a ∧ xs = [] ∧ ¬ A a ∧ H a = some (.dK []) := by unfold RepD at h; exact h
theorem RepS.int {i : Int} {v : V} (h : RepS K H A (.int i) v) : v = .int i := by cases h with | d h => exact h.int
theorem RepS.bl {i : Bool} {v : V} (h : RepS K H A (.bool i) v) : v = .bl i := by cases h with | d h => exact h.bl
theorem RepS.non {v : V} (h : RepS K H A .none v) : v = .non := by cases h with | d h => exact h.non
theorem RepS.str {x : Str} {v : V} (h : RepS K H A (.str x) v) : v = .str x ∧ x.length ≤ sizeLine := by cases h with | d h => exact h.str
theorem RepS.tup {xs : List PyData} {v : V} (h : RepS K H A (.tuple xs) v) : ∃ a vs, v = .ref a ∧ TupA K H A a vs ∧ vs.length ≤ sizeLine ∧ RepL K H A xs vs := by cases h with | d h => exact h.tup
theorem RepS.lst {xs : List PyData} {v : V} (h : RepS K H A (.list xs) v) : ∃ a vs, v = .ref a ∧ Rd H a (.lst vs) ∧ vs.length ≤ sizeLine ∧ RepL K H A xs vs := by
  cases h with
  | d h => obtain ⟨a, vs, e, t, z, r⟩ := h.lst; exact ⟨a, vs, e, t.2, z, r⟩
  | l h z r => exact ⟨_, _, rfl, h, z, r⟩
theorem rep_tup {xs : List PyData} {a : Addr} {vs : List V} (h : TupA K H A a vs) (hz : vs.length ≤ sizeLine) (r : RepL K H A xs vs) : RepD K H A (.tuple xs) (.ref a) := by unfold RepD; exact ⟨a, vs, rfl, h, hz, r⟩
theorem rep_lst {xs : List PyData} {a : Addr} {vs : List V} (h : LstA K H A a vs) (hz : vs.length ≤ sizeLine) (r : RepL K H A xs vs) : RepD K H A (.list xs) (.ref a) := by unfold RepD; exact ⟨a, vs, rfl, h, hz, r⟩
/-- a new tuple, a new list -/
theorem rep_newT {xs : List PyData} {p : Addr} {vs : List V} (hA : ∀ a, A a → H a ≠ none) (hp : H p = none) (hz : vs.length ≤ sizeLine) (r : RepL K H A xs vs) : RepD K (upd H p (.tup vs)) A (.tuple xs) (.ref p) :=
  rep_tup (.inl ⟨fun z => hA p z hp, .inl upd_same⟩) hz ((Go.of_new (Frm.new hp)).repL _ _ r)
theorem rep_newL {xs : List PyData} {p : Addr} {vs : List V} (hA : ∀ a, A a → H a ≠ none) (hp : H p = none) (hz : vs.length ≤ sizeLine) (r : RepL K H A xs vs) : RepD K (upd H p (.lst vs)) A (.list xs) (.ref p) :=
  rep_lst ⟨fun z => hA p z hp, .inl upd_same⟩ hz ((Go.of_new (Frm.new hp)).repL _ _ r)

/-! ### + -/
def oAdd : PyData → PyData → Option PyData
  | .int i, .int j => some (.int (i + j))
  | .str x, .str y => if x.length + y.length ≤ sizeLine then some (.str (x ++ y)) else none
  | .tuple xs, .tuple ys => if xs.length + ys.length ≤ sizeLine then some (.tuple (xs ++ ys)) else none
  | .list xs, .list ys => if xs.length + ys.length ≤ sizeLine then some (.list (xs ++ ys)) else none
  | _, _ => none
def rCatR : R2 := fun x y H Q => ∃ l b xs zs, x = .ref l ∧ y = .ref b ∧ Rd H l (.lst xs) ∧ Rd H b (.lst zs) ∧ xs.length + zs.length ≤ sizeLine ∧ ∀ p, H p = none → Q (.ref p) (upd H p (.lst (xs ++ zs)))
theorem rdL {pins : List (Addr × Obj)} {σ : L2.St} {s : Shared} {a : Addr} {xs : List V} (I : Inv X pins σ H s) (h : Rd H a (.lst xs)) :
    xs.length ≤ sizeLine ∧ ∃ (its : List Value) (n : Nat), Vals xs its ∧ xs.length = its.length ∧ s.heap.get? a = some { cls := .type "list", data := .seq its.toArray n } := by
  obtain ⟨hz, its, n, r, e⟩ := h.ok I.hok
  exact ⟨hz, its, n, r, r.length, e⟩
theorem op_catR : OpR X (binaryOp .Add) rCatR := by
  intro pins s σ H x y v u Q I rx ry h
  obtain ⟨l, b, xs, zs, rfl, rfl, hH, hB, hz, q⟩ := h
  cases rx
  cases ry
  obtain ⟨z, its, n, r, hl, e⟩ := rdL I hH
  obtain ⟨z2, its2, n2, r2, hl2, e2⟩ := rdL I hB
  refine PySem.P.add_list e e2 ?_ (by rw [List.size_toArray, List.size_toArray]; omega)
  have ea : its.toArray ++ its2.toArray = (its ++ its2).toArray := by simp
  rw [ea]
  exact ⟨.ref _, _, I.lnew (t' := s.toks) (r.append r2) (by rw [List.length_append]; omega), rfl, q _ I.fresh⟩
def rAddD (K : PySem.W.Frag) : R2 := fun x y H Q => (rI0 (fun i j => .int (i + j)) x y H Q ∨ (∃ i j, x = .str i ∧ y = .str j ∧ i.length + j.length ≤ sizeLine ∧ Q (.str (i ++ j)) H)) ∨ (rCatA K x y H Q ∨ rCatR x y H Q)
theorem op_addD : OpR X (binaryOp .Add) (rAddD X.K) := (op_add.or op_add_str).or (op_catA.or op_catR)
theorem length_append_str (x y : Str) : (x ++ y).length = x.length + y.length := by
  show (x.cps ++ y.cps).size = _
  rw [Array.size_append] <;> rfl
theorem rs_add : RS K (rAddD K) oAdd := by
  intro H A x y z vx vy Q hA rx ry hz k
  unfold oAdd at hz
  split at hz
  · cases hz; cases rx.int; cases ry.int
    exact .inl (.inl ⟨_, _, rfl, rfl, k _ _ Frm.refl rep_int⟩)
  · split at hz
    · rename_i hl
      cases hz
      obtain ⟨e1, _⟩ := rx.str
      obtain ⟨e2, _⟩ := ry.str
      subst e1 e2
      exact .inl (.inr ⟨_, _, rfl, rfl, hl, k _ _ Frm.refl (rep_str (by rw [length_append_str]; exact hl))⟩)
    · cases hz
  · split at hz
    · rename_i xs ys hl
      cases hz
      obtain ⟨a, vs, e1, t1, z1, r1⟩ := rx.tup
      obtain ⟨b, ws, e2, t2, z2, r2⟩ := ry.tup
      subst e1 e2
      have l1 := r1.length
      have l2 := r2.length
      refine .inr (.inl ⟨a, b, vs, ws, rfl, rfl, t1.sq, t2.sq, by omega, fun hv => ?_, fun _ hw => ?_, fun _ _ p hp => ?_⟩)
      · subst hv
        have : xs = [] := List.length_eq_zero_iff.mp l1.symm
        subst this
        exact k _ _ Frm.refl (rep_tup t2 z2 r2)
      · subst hw
        have : ys = [] := List.length_eq_zero_iff.mp l2.symm
        subst this
        rw [List.append_nil] at k
        exact k _ _ Frm.refl (rep_tup t1 z1 r1)
      · exact k _ _ (Frm.new hp) (rep_newT hA hp (by rw [List.length_append]; omega) (r1.append r2))
    · cases hz
  · split at hz
    · rename_i xs ys hl
      cases hz
      obtain ⟨a, vs, e1, t1, z1, r1⟩ := rx.lst
      obtain ⟨b, ws, e2, t2, z2, r2⟩ := ry.lst
      subst e1 e2
      have l1 := r1.length
      have l2 := r2.length
      exact .inr (.inr ⟨a, b, vs, ws, rfl, rfl, t1, t2, by omega, fun p hp => k _ _ (Frm.new hp) (rep_newL hA hp (by rw [List.length_append]; omega) (r1.append r2))⟩)
    · cases hz
  · cases hz
/-! ### - * // % ** -/
def oSub : PyData → PyData → Option PyData
  | .int i, .int j => some (.int (i - j))
  | _, _ => none
theorem rs_sub : RS K (rI0 fun i j => .int (i - j)) oSub := by
  intro H A x y z vx vy Q hA rx ry hz k
  unfold oSub at hz
  split at hz
  · cases hz; cases rx.int; cases ry.int
    exact ⟨_, _, rfl, rfl, k _ _ Frm.refl rep_int⟩
  · cases hz
def oMul : PyData → PyData → Option PyData
  | .int i, .int j => if i.natAbs.log2 + j.natAbs.log2 < 1000000 then some (.int (i * j)) else none
  | .list xs, .int k => if -(2 ^ 63) ≤ k ∧ k < 2 ^ 63 ∧ xs.length * k.toNat ≤ sizeLine then some (.list (List.replicate k.toNat xs).flatten) else none
  | _, _ => none
def rRepR : R2 := fun x y H Q => ∃ l k xs, x = .ref l ∧ y = .int k ∧ Rd H l (.lst xs) ∧ -(2 ^ 63) ≤ k ∧ k < 2 ^ 63 ∧ xs.length * k.toNat ≤ sizeLine ∧
  ∀ p, H p = none → Q (.ref p) (upd H p (.lst (List.replicate k.toNat xs).flatten))
theorem op_repR : OpR X (binaryOp .Mult) rRepR := by
  intro pins s σ H x y v u Q I rx ry h
  obtain ⟨l, k, xs, rfl, rfl, hH, h1, h2, hz, q⟩ := h
  cases rx
  obtain ⟨t, rfl⟩ := ry
  obtain ⟨z, its, n, r, hl, e⟩ := rdL I hH
  have hlen : its.toArray.size * k.toNat ≤ sizeLine := by rw [List.size_toArray, ← hl]; exact hz
  have hcap : ¬ its.toArray.size * k.toNat > (2 ^ 63 - 1) / 8 := by
    have : (sizeLine : Nat) ≤ (2 ^ 63 - 1) / 8 := by decide
    omega
  have hfit : ¬ (!Builtin.List.listFitsIndex k) = true := by
    rw [fitsIndex_both h1 h2]
    exact Bool.false_ne_true
  have hlong : ¬ Builtin.List.listTooLong (its.toArray.size * k.toNat) = true := by
    rw [notLongL hlen]
    exact Bool.false_ne_true
  have hnew : List.foldl (fun x1 x2 => x1 ++ x2) #[] (List.replicate (if its.toArray.isEmpty = true then 0 else k.toNat) its.toArray) = (List.replicate k.toNat its).flatten.toArray := by
    have f0 : ∀ m : Nat, List.foldl (fun x1 x2 => x1 ++ x2) #[] (List.replicate m its.toArray) = (List.replicate m its).flatten.toArray := fun m => by
      have := foldl_rep its m []
      rw [List.nil_append] at this
      exact this
    rw [f0]
    cases its with
    | nil => simp
    | cons a r' => rw [if_neg (by simp)]
  refine wpAny_binaryOp_repeat_ref (T := "list") (U := "int") (by decide) ⟨_, e, rfl⟩ (fun s' => typeIs_int s' k t) noFill_list_mul F.fills_int_mul F.slot_int_rmul repeat_list F.slot_int_index.lookup
    (call_meets F.slot_int_rmul (typeIs_int s k t) F.entry_int_rmul (F.args_int_rmul_2 _ _) (int___rmul___int_list k t l its.toArray n)
      ⟨e, rfl, ⟨_, e, rfl⟩, call_meets F.slot_list_mul ⟨_, e, rfl⟩ F.entry_list_mul (F.args_list_mul_2 _ _) (AutoListH.list___mul___list_int_3 l its.toArray n k t hfit hcap hlong) ⟨e, ?_⟩⟩)
  rw [hnew]
  exact ⟨.ref _, _, I.lnew (t' := s.toks) (r.rep k.toNat) (by rw [PyProof.Rows.lm_len_rep_flat, Nat.mul_comm]; exact hz), rfl, q _ I.fresh⟩
def rMulD : R2 := fun x y H Q => rI CMulW (fun i j => .int (i * j)) x y H Q ∨ rRepR x y H Q
theorem op_mulD : OpR X (binaryOp .Mult) rMulD := op_mulW.or op_repR
theorem RepL.rep {ds : List PyData} {vs : List V} (h : RepL K H A ds vs) : ∀ k : Nat, RepL K H A (List.replicate k ds).flatten (List.replicate k vs).flatten
  | 0 => repL_nil
  | k + 1 => by
    rw [List.replicate_succ, List.replicate_succ, List.flatten_cons, List.flatten_cons]
    exact h.append (RepL.rep h k)
theorem rs_mul : RS K rMulD oMul := by
  intro H A x y z vx vy Q hA rx ry hz k
  unfold oMul at hz
  split at hz
  · split at hz
    · rename_i hl
      cases hz; cases rx.int; cases ry.int
      exact .inl ⟨_, _, rfl, rfl, hl, k _ _ Frm.refl rep_int⟩
    · cases hz
  · split at hz
    · rename_i xs n hl
      obtain ⟨h1, h2, h3⟩ := hl
      cases hz
      obtain ⟨a, vs, e1, t1, z1, r1⟩ := rx.lst
      cases ry.int
      subst e1
      have l1 := r1.length
      refine .inr ⟨a, n, vs, rfl, rfl, t1, h1, h2, by rw [l1]; exact h3, fun p hp => k _ _ (Frm.new hp) (rep_newL hA hp ?_ (r1.rep _))⟩
      rw [PyProof.Rows.lm_len_rep_flat, Nat.mul_comm, l1]; exact h3
    · cases hz
  · cases hz
def oDiv : PyData → PyData → Option PyData
  | .int i, .int j => if 0 < j ∧ j.natAbs.log2 < 9000 then some (.int (i / j)) else none
  | _, _ => none
theorem rs_div : RS K (rI CDivW fun i j => .int (i / j)) oDiv := by
  intro H A x y z vx vy Q hA rx ry hz k
  unfold oDiv at hz
  split at hz
  · split at hz
    · rename_i hl
      cases hz; cases rx.int; cases ry.int
      exact ⟨_, _, rfl, rfl, hl, k _ _ Frm.refl rep_int⟩
    · cases hz
  · cases hz
def oMod : PyData → PyData → Option PyData
  | .int i, .int j => if 0 < j then some (.int (i % j)) else none
  | _, _ => none
theorem rs_mod : RS K (rI (fun _ j => 0 < j) fun i j => .int (i % j)) oMod := by
  intro H A x y z vx vy Q hA rx ry hz k
  unfold oMod at hz
  split at hz
  · split at hz
    · rename_i hl
      cases hz; cases rx.int; cases ry.int
      exact ⟨_, _, rfl, rfl, hl, k _ _ Frm.refl rep_int⟩
    · cases hz
  · cases hz
def oPow : PyData → PyData → Option PyData
  | .int i, .int j => if 0 ≤ j ∧ j ≤ 1000000 ∧ i.natAbs < 2 ^ 64 then some (.int (i ^ j.toNat)) else none
  | _, _ => none
theorem rs_pow : RS K (rI CPow fun i j => .int (i ^ j.toNat)) oPow := by
  intro H A x y z vx vy Q hA rx ry hz k
  unfold oPow at hz
  split at hz
  · split at hz
    · rename_i hl
      cases hz; cases rx.int; cases ry.int
      exact ⟨_, _, rfl, rfl, hl, k _ _ Frm.refl rep_int⟩
    · cases hz
  · cases hz
/-! ### < <= > >= -/
def oRel (p : Int → Int → Bool) : PyData → PyData → Option PyData
  | .int i, .int j => some (.bool (p i j))
  | _, _ => none
theorem rs_rel (p : Int → Int → Bool) : RS K (rI0 fun i j => .bl (p i j)) (oRel p) := by
  intro H A x y z vx vy Q hA rx ry hz k
  unfold oRel at hz
  split at hz
  · cases hz; cases rx.int; cases ry.int
    exact ⟨_, _, rfl, rfl, k _ _ Frm.refl rep_bl⟩
  · cases hz
end
end DL

namespace DL
open PySem PySem.Spec PyProof.Rows L2

section
variable {X : Cx} {K : PySem.W.Frag} {H : Hp} {A : Addr → Prop}
/-! ### == != -/
mutual
theorem RepD.dp : ∀ (d : PyData) (v : V), RepD K H A d v → d.canLay0 = true → Dp K H v d
  | .none, v, h, _ => by cases h.non; exact .non
  | .bool b, v, h, _ => by cases h.bl; exact .bl b
  | .int i, v, h, _ => by cases h.int; exact .int i
  | .str x, v, h, _ => by obtain ⟨e, _⟩ := h.str; subst e; exact .str x
  | .tuple xs, v, h, c => by
    obtain ⟨a, vs, e, t, _, r⟩ := h.tup
    subst e
    exact .tup t.sq (RepL.dp xs vs r (by simpa [PyData.canLay0] using c))
  | .list xs, v, h, c => by
    obtain ⟨a, vs, e, t, _, r⟩ := h.lst
    subst e
    exact .lst t.sq (RepL.dp xs vs r (by simpa [PyData.canLay0] using c))
  | .dict _, _, _, c => by simp [PyData.canLay0] at c
theorem RepL.dp : ∀ (ds : List PyData) (vs : List V), RepL K H A ds vs → PyData.canLayAll0 ds = true → DpAll K H vs ds
  | [], vs, h, _ => by unfold RepL at h; subst h; exact .nil
  | d :: ds, vs, h, c => by
    unfold RepL at h
    obtain ⟨v, r, e, h1, h2⟩ := h
    subst e
    have c' : d.canLay0 = true ∧ PyData.canLayAll0 ds = true := by simpa [PyData.canLayAll0] using c
    exact .cons (RepD.dp d v h1 c'.1) (RepL.dp ds r h2 c'.2)
end
theorem RepS.dp {d : PyData} {v : V} (h : RepS K H A d v) (c : d.canLay0 = true) : Dp K H v d := by
  cases h with
  | d h => exact h.dp _ _ c
  | l h z r => exact .lst (.inl h) (RepL.dp _ _ r (by simpa [PyData.canLay0] using c))
/-- what is told by the kinds of both alone -/
def scB : PyData → PyData → Option Bool
  | .str x, .str y => some (decide (x = y))
  | .int x, .int y => some (decide (x = y))
  | .bool x, .bool y => some (decide (x = y))
  | .none, .none => some true
  | .none, .int _ => some false
  | .int _, .none => some false
  | .none, .bool _ => some false
  | .bool _, .none => some false
  | .none, .str _ => some false
  | .str _, .none => some false
  | .int _, .str _ => some false
  | .str _, .int _ => some false
  | .bool _, .str _ => some false
  | .str _, .bool _ => some false
  | .tuple _, .none => some false
  | .tuple _, .bool _ => some false
  | .tuple _, .int _ => some false
  | .tuple _, .str _ => some false
  | .none, .tuple _ => some false
  | .bool _, .tuple _ => some false
  | .int _, .tuple _ => some false
  | .str _, .tuple _ => some false
  | .tuple xs, .tuple ys => if xs.isEmpty || ys.isEmpty then some (xs.isEmpty && ys.isEmpty) else none
  | _, _ => none
def eqB (x y : PyData) : Option Bool := match scB x y with
  | some b => some b
  | none => if SeqAt.shaped x && SeqAt.shaped y then some (PyData.eqv x y) else none
def oEq (x y : PyData) : Option PyData := (eqB x y).map .bool
def oNe (x y : PyData) : Option PyData := (eqB x y).map fun b => .bool (!b)
/-- a tuple and a scalar -/
def tupScal (K : PySem.W.Frag) (H : Hp) (x y : V) : Prop := ∃ a xs, x = .ref a ∧ SqT K H a xs ∧ flatV y = true
def rEqX (K : PySem.W.Frag) (f : Bool → Bool) : R2 := fun x y H Q => (tupScal K H x y ∨ tupScal K H y x) ∧ Q (.bl (f false)) H
theorem op_eqX (hu : X.A.units + 64 < cLine) : OpR X (compareOp .Eq) (rEqX X.K id) := by
  intro pins s σ H x y v u Q I rx ry h
  have hu' : X.A.units < cLine := by omega
  obtain ⟨h | h, q⟩ := h
  · obtain ⟨a, xs, rfl, t, f⟩ := h
    cases rx
    obtain ⟨its, r, p, _⟩ := I.tuple t
    cases y with
    | non => cases ry; exact SeqAt.RcAt.tuple_none p hu' _ _ _ _ ⟨.bl _, H, I, rfl, q⟩
    | bl b => cases ry; exact SeqAt.RcAt.tuple_bool b p hu' _ _ _ _ ⟨.bl _, H, I, rfl, q⟩
    | int b => obtain ⟨t, rfl⟩ := ry; exact SeqAt.RcAt.tuple_int b _ p hu' _ _ _ _ ⟨.bl _, H, I, rfl, q⟩
    | str b => obtain ⟨t, rfl⟩ := ry; exact SeqAt.RcAt.tuple_str b _ p hu' _ _ _ _ ⟨.bl _, H, I, rfl, q⟩
    | _ => cases f
  · obtain ⟨a, xs, rfl, t, f⟩ := h
    cases ry
    obtain ⟨its, r, p, _⟩ := I.tuple t
    cases x with
    | non => cases rx; exact SeqAt.RcAt.none_tuple p hu' _ _ _ _ ⟨.bl _, H, I, rfl, q⟩
    | bl b => cases rx; exact SeqAt.RcAt.bool_tuple b p hu' _ _ _ _ ⟨.bl _, H, I, rfl, q⟩
    | int b => obtain ⟨t, rfl⟩ := rx; exact SeqAt.RcAt.int_tuple b _ p hu' _ _ _ _ ⟨.bl _, H, I, rfl, q⟩
    | str b => obtain ⟨t, rfl⟩ := rx; exact SeqAt.RcAt.str_tuple b _ p hu' _ _ _ _ ⟨.bl _, H, I, rfl, q⟩
    | _ => cases f
theorem op_neX (hu : X.A.units + 64 < cLine) : OpR X (compareOp .NotEq) (rEqX X.K not) := by
  intro pins s σ H x y v u Q I rx ry h
  have hu' : X.A.units < cLine := by omega
  obtain ⟨h | h, q⟩ := h
  · obtain ⟨a, xs, rfl, t, f⟩ := h
    cases rx
    obtain ⟨its, r, p, _⟩ := I.tuple t
    cases y with
    | non => cases ry; exact SeqAt.RcNeAt.tuple_none p hu' _ _ _ _ ⟨.bl _, H, I, rfl, q⟩
    | bl b => cases ry; exact SeqAt.RcNeAt.tuple_bool b p hu' _ _ _ _ ⟨.bl _, H, I, rfl, q⟩
    | int b => obtain ⟨t, rfl⟩ := ry; exact SeqAt.RcNeAt.tuple_int b _ p hu' _ _ _ _ ⟨.bl _, H, I, rfl, q⟩
    | str b => obtain ⟨t, rfl⟩ := ry; exact SeqAt.RcNeAt.tuple_str b _ p hu' _ _ _ _ ⟨.bl _, H, I, rfl, q⟩
    | _ => cases f
  · obtain ⟨a, xs, rfl, t, f⟩ := h
    cases ry
    obtain ⟨its, r, p, _⟩ := I.tuple t
    cases x with
    | non => cases rx; exact SeqAt.RcNeAt.none_tuple p hu' _ _ _ _ ⟨.bl _, H, I, rfl, q⟩
    | bl b => cases rx; exact SeqAt.RcNeAt.bool_tuple b p hu' _ _ _ _ ⟨.bl _, H, I, rfl, q⟩
    | int b => obtain ⟨t, rfl⟩ := rx; exact SeqAt.RcNeAt.int_tuple b _ p hu' _ _ _ _ ⟨.bl _, H, I, rfl, q⟩
    | str b => obtain ⟨t, rfl⟩ := rx; exact SeqAt.RcNeAt.str_tuple b _ p hu' _ _ _ _ ⟨.bl _, H, I, rfl, q⟩
    | _ => cases f
/-- two tuples, one of them empty -/
def rEqN (K : PySem.W.Frag) (f : Bool → Bool) : R2 := fun x y H Q => ∃ a b xs ys, x = .ref a ∧ y = .ref b ∧ SqT K H a xs ∧ SqT K H b ys ∧ (xs.isEmpty || ys.isEmpty) = true ∧ Q (.bl (f (xs.isEmpty && ys.isEmpty))) H
theorem nil_all {α β : Type} {xs : List α} {ys : List β} (h : (xs.isEmpty || ys.isEmpty) = true) (e : Nat → Bool) : ((List.range (min xs.length ys.length)).all e && xs.length == ys.length) = (xs.isEmpty && ys.isEmpty) := by
  cases xs with
  | nil => cases ys <;> simp
  | cons x xs => cases ys with
    | nil => simp
    | cons y ys => cases h
theorem op_eqN (hu : X.A.units + 64 < cLine) : OpR X (compareOp .Eq) (rEqN X.K id) := by
  intro pins s σ H x y v u Q I rx ry h
  obtain ⟨a, b, xs, ys, rfl, rfl, ta, tb, hn, q⟩ := h
  cases rx
  cases ry
  obtain ⟨its, r, p, _⟩ := I.tuple ta
  obtain ⟨its2, r2, p2, _⟩ := I.tuple tb
  have l1 := r.length
  have l2 := r2.length
  refine SeqAt.RcAt.tuples (e := fun _ => false) p p2 (by omega) (fun j h1 h2 => ?_) _ _ _ _ ?_
  · exfalso
    rw [List.size_toArray] at h1 h2
    cases xs with
    | nil => simp at l1; omega
    | cons x xs => cases ys with
      | nil => simp at l2; omega
      | cons y ys => cases hn
  · refine ⟨.bl _, H, I, ?_, q⟩
    show Value.bool _ = Value.bool _
    rw [List.size_toArray, List.size_toArray, ← l1, ← l2, nil_all hn] <;> rfl
theorem op_neN (hu : X.A.units + 64 < cLine) : OpR X (compareOp .NotEq) (rEqN X.K not) := by
  intro pins s σ H x y v u Q I rx ry h
  obtain ⟨a, b, xs, ys, rfl, rfl, ta, tb, hn, q⟩ := h
  cases rx
  cases ry
  obtain ⟨its, r, p, _⟩ := I.tuple ta
  obtain ⟨its2, r2, p2, _⟩ := I.tuple tb
  have l1 := r.length
  have l2 := r2.length
  refine SeqAt.RcNeAt.tuples (e := fun _ => false) p p2 (by omega) (fun j h1 h2 => ?_) _ _ _ _ ?_
  · exfalso
    rw [List.size_toArray] at h1 h2
    cases xs with
    | nil => simp at l1; omega
    | cons x xs => cases ys with
      | nil => simp at l2; omega
      | cons y ys => cases hn
  · refine ⟨.bl _, H, I, ?_, q⟩
    show Value.bool _ = Value.bool _
    rw [List.size_toArray, List.size_toArray, ← l1, ← l2, nil_all hn] <;> rfl
def rEqA (K : PySem.W.Frag) : R2 := fun x y H Q => (rEq x y H Q ∨ rEqX K id x y H Q) ∨ (rEqN K id x y H Q ∨ rEqD K x y H Q)
def rNeA (K : PySem.W.Frag) : R2 := fun x y H Q => (rNe x y H Q ∨ rEqX K not x y H Q) ∨ (rEqN K not x y H Q ∨ rNeD K x y H Q)
theorem op_eqA (hu : X.A.units + 64 < cLine) : OpR X (compareOp .Eq) (rEqA X.K) := (op_eq.or (op_eqX hu)).or ((op_eqN hu).or (op_eqD hu))
theorem op_neA (hu : X.A.units + 64 < cLine) : OpR X (compareOp .NotEq) (rNeA X.K) := (op_ne.or (op_neX hu)).or ((op_neN hu).or (op_neD hu))
theorem eq_shape {x y : PyData} {b : Bool} {vx vy : V} (hA : ∀ a, A a → H a ≠ none) (rx : RepS K H A x vx) (ry : RepS K H A y vy) (h : eqB x y = some b) :
    (scal vx vy = true ∧ decide (vx = vy) = b) ∨ ((tupScal K H vx vy ∨ tupScal K H vy vx) ∧ b = false) ∨
      (∃ p q xs ys, vx = .ref p ∧ vy = .ref q ∧ SqT K H p xs ∧ SqT K H q ys ∧ (xs.isEmpty || ys.isEmpty) = true ∧ (xs.isEmpty && ys.isEmpty) = b) ∨
      (∃ d e, Dp K H vx d ∧ Dp K H vy e ∧ SeqAt.shaped d = true ∧ SeqAt.shaped e = true ∧ PyData.eqv d e = b) := by
  unfold eqB at h
  split at h
  · rename_i b' e
    cases h
    unfold scB at e
    split at e
    all_goals first
      | (cases e; obtain ⟨e1, _⟩ := rx.str; obtain ⟨e2, _⟩ := ry.str; subst e1 e2; exact .inl ⟨rfl, by simp⟩)
      | (cases e; cases rx.int; cases ry.int; exact .inl ⟨rfl, by simp⟩)
      | (cases e; cases rx.bl; cases ry.bl; exact .inl ⟨rfl, by simp⟩)
      | (cases e; cases rx.non; cases ry.non; exact .inl ⟨rfl, by simp⟩)
      | (cases e; cases rx.non; cases ry.int; exact .inl ⟨rfl, by simp⟩)
      | (cases e; cases rx.int; cases ry.non; exact .inl ⟨rfl, by simp⟩)
      | (cases e; cases rx.non; cases ry.bl; exact .inl ⟨rfl, by simp⟩)
      | (cases e; cases rx.bl; cases ry.non; exact .inl ⟨rfl, by simp⟩)
      | (cases e; cases rx.non; obtain ⟨e2, _⟩ := ry.str; subst e2; exact .inl ⟨rfl, by simp⟩)
      | (cases e; obtain ⟨e2, _⟩ := rx.str; subst e2; cases ry.non; exact .inl ⟨rfl, by simp⟩)
      | (cases e; cases rx.int; obtain ⟨e2, _⟩ := ry.str; subst e2; exact .inl ⟨rfl, by simp⟩)
      | (cases e; obtain ⟨e2, _⟩ := rx.str; subst e2; cases ry.int; exact .inl ⟨rfl, by simp⟩)
      | (cases e; cases rx.bl; obtain ⟨e2, _⟩ := ry.str; subst e2; exact .inl ⟨rfl, by simp⟩)
      | (cases e; obtain ⟨e2, _⟩ := rx.str; subst e2; cases ry.bl; exact .inl ⟨rfl, by simp⟩)
      | (cases e; obtain ⟨a, vs, e1, t, _, _⟩ := rx.tup; subst e1; first
          | (cases ry.non; exact .inr (.inl ⟨.inl ⟨a, vs, rfl, t.sq, rfl⟩, rfl⟩))
          | (cases ry.bl; exact .inr (.inl ⟨.inl ⟨a, vs, rfl, t.sq, rfl⟩, rfl⟩))
          | (cases ry.int; exact .inr (.inl ⟨.inl ⟨a, vs, rfl, t.sq, rfl⟩, rfl⟩))
          | (obtain ⟨e2, _⟩ := ry.str; subst e2; exact .inr (.inl ⟨.inl ⟨a, vs, rfl, t.sq, rfl⟩, rfl⟩)))
      | (cases e; obtain ⟨a, vs, e1, t, _, _⟩ := ry.tup; subst e1; first
          | (cases rx.non; exact .inr (.inl ⟨.inr ⟨a, vs, rfl, t.sq, rfl⟩, rfl⟩))
          | (cases rx.bl; exact .inr (.inl ⟨.inr ⟨a, vs, rfl, t.sq, rfl⟩, rfl⟩))
          | (cases rx.int; exact .inr (.inl ⟨.inr ⟨a, vs, rfl, t.sq, rfl⟩, rfl⟩))
          | (obtain ⟨e2, _⟩ := rx.str; subst e2; exact .inr (.inl ⟨.inr ⟨a, vs, rfl, t.sq, rfl⟩, rfl⟩)))
      | (split at e
         · rename_i hn
           cases e
           obtain ⟨a, vs, e1, t, _, r1⟩ := rx.tup
           obtain ⟨b, ws, e2, t2, _, r2⟩ := ry.tup
           subst e1 e2
           have l1 := r1.length
           have l2 := r2.length
           have q1 : ∀ {α β : Type} {xs : List α} {ys : List β}, xs.length = ys.length → xs.isEmpty = ys.isEmpty := fun {α β xs ys} h => by
             cases xs <;> cases ys <;> simp at h <;> rfl
           exact .inr (.inr (.inl ⟨a, b, vs, ws, rfl, rfl, t.sq, t2.sq, by rw [q1 l1, q1 l2]; exact hn, by rw [q1 l1, q1 l2]⟩))
         · cases e)
      | cases e
  · split at h
    · rename_i hs
      cases h
      obtain ⟨s1, s2⟩ := Bool.and_eq_true_iff.mp hs
      exact .inr (.inr (.inr ⟨x, y, rx.dp (SeqAt.canLay_of_shaped s1), ry.dp (SeqAt.canLay_of_shaped s2), s1, s2, rfl⟩))
    · cases h
theorem rs_eq : RS K (rEqA K) oEq := by
  intro H A x y z vx vy Q hA rx ry hz k
  obtain ⟨b, hb, e⟩ := Option.map_eq_some_iff.mp hz
  subst e
  have q := k _ _ Frm.refl (rep_bl (b := b))
  rcases eq_shape hA rx ry hb with ⟨h1, h2⟩ | ⟨h1, h2⟩ | ⟨p, p', xs, ys, h1, h2, h3, h4, h5, h6⟩ | ⟨d, e, h1, h2, h3, h4, h5⟩
  · exact .inl (.inl ⟨h1, by rw [h2]; exact q⟩)
  · exact .inl (.inr ⟨h1, by rw [h2] at q; exact q⟩)
  · exact .inr (.inl ⟨p, p', xs, ys, h1, h2, h3, h4, h5, by rw [h6]; exact q⟩)
  · exact .inr (.inr ⟨d, e, h1, h2, h3, h4, by rw [h5]; exact q⟩)
theorem rs_ne : RS K (rNeA K) oNe := by
  intro H A x y z vx vy Q hA rx ry hz k
  obtain ⟨b, hb, e⟩ := Option.map_eq_some_iff.mp hz
  subst e
  have q := k _ _ Frm.refl (rep_bl (b := !b))
  rcases eq_shape hA rx ry hb with ⟨h1, h2⟩ | ⟨h1, h2⟩ | ⟨p, p', xs, ys, h1, h2, h3, h4, h5, h6⟩ | ⟨d, e, h1, h2, h3, h4, h5⟩
  · exact .inl (.inl ⟨h1, by rw [h2]; exact q⟩)
  · exact .inl (.inr ⟨h1, by rw [h2] at q; exact q⟩)
  · exact .inr (.inl ⟨p, p', xs, ys, h1, h2, h3, h4, h5, by rw [h6]; exact q⟩)
  · exact .inr (.inr ⟨d, e, h1, h2, h3, h4, by rw [h5]; exact q⟩)
end
end DL

namespace DL
open PySem PySem.Spec PyProof.Rows L2

section
variable {X : Cx} {K : PySem.W.Frag} {H : Hp} {A : Addr → Prop} {io : List Nat} {a b c : Expr} {fa fb fc : Ef} {pos : Pos}
/-! ### in -/
def flatP : PyData → Bool
  | .none => true
  | .bool _ => true
  | .int _ => true
  | .str _ => true
  | _ => false
def eqF : PyData → PyData → Bool
  | .none, .none => true
  | .bool a, .bool b => a == b
  | .bool a, .int b => (if a then 1 else 0) == b
  | .int a, .bool b => a == (if b then 1 else 0)
  | .int a, .int b => a == b
  | .str a, .str b => a == b
  | _, _ => false
theorem RepD.flat {d : PyData} {v : V} (h : RepD K H A d v) (f : flatP d = true) : flatV v = true := by
  cases d with
  | none => cases h.non; rfl
  | bool b => cases h.bl; rfl
  | int b => cases h.int; rfl
  | str b => obtain ⟨e, _⟩ := h.str; subst e; rfl
  | _ => cases f
theorem RepD.eqF {d e : PyData} {v u : V} (h : RepD K H A d v) (h' : RepD K H A e u) (f : flatP d = true) (f' : flatP e = true) : eqV v u = DL.eqF d e := by
  cases d with
  | none => cases h.non; cases e with
    | none => cases h'.non; rfl
    | bool b => cases h'.bl; rfl
    | int b => cases h'.int; rfl
    | str b => obtain ⟨e, _⟩ := h'.str; subst e; rfl
    | _ => cases f'
  | bool b => cases h.bl; cases e with
    | none => cases h'.non; rfl
    | bool b => cases h'.bl; rfl
    | int b => cases h'.int; rfl
    | str b => obtain ⟨e, _⟩ := h'.str; subst e; rfl
    | _ => cases f'
  | int b => cases h.int; cases e with
    | none => cases h'.non; rfl
    | bool b => cases h'.bl; rfl
    | int b => cases h'.int; rfl
    | str b => obtain ⟨e, _⟩ := h'.str; subst e; rfl
    | _ => cases f'
  | str b => obtain ⟨e1, _⟩ := h.str; subst e1; cases e with
    | none => cases h'.non; rfl
    | bool b => cases h'.bl; rfl
    | int b => cases h'.int; rfl
    | str b => obtain ⟨e, _⟩ := h'.str; subst e; rfl
    | _ => cases f'
  | _ => cases f
theorem RepL.flat : ∀ {ds : List PyData} {vs : List V}, RepL K H A ds vs → ds.all flatP = true → vs.all flatV = true
  | [], vs, h, _ => by unfold RepL at h; subst h; rfl
  | d :: ds, vs, h, f => by
    unfold RepL at h
    obtain ⟨v, r, e, h1, h2⟩ := h
    subst e
    rw [List.all_cons] at f ⊢
    obtain ⟨f1, f2⟩ := Bool.and_eq_true_iff.mp f
    rw [h1.flat f1, RepL.flat h2 f2] <;> rfl
theorem RepL.inV {x : PyData} {vx : V} (hx : RepD K H A x vx) (fx : flatP x = true) : ∀ {ds : List PyData} {vs : List V}, RepL K H A ds vs → ds.all flatP = true → L2.inV vx vs = ds.any fun y => DL.eqF y x
  | [], vs, h, _ => by unfold RepL at h; subst h; rfl
  | d :: ds, vs, h, f => by
    unfold RepL at h
    obtain ⟨v, r, e, h1, h2⟩ := h
    subst e
    rw [List.all_cons] at f
    obtain ⟨f1, f2⟩ := Bool.and_eq_true_iff.mp f
    have ih := RepL.inV hx fx h2 f2
    show (eqV v vx || L2.inV vx r) = _
    rw [List.any_cons, ih, h1.eqF hx f1 fx]
def inB (x : PyData) : PyData → Option Bool
  | .tuple ys => if flatP x && ys.all flatP then some (ys.any fun y => eqF y x) else none
  | .list ys => if flatP x && ys.all flatP then some (ys.any fun y => eqF y x) else none
  | .str z => match x with
    | .str w => if w.cps.size = 1 then some (decide (w.cps.getD 0 0 ∈ z.cps.toList)) else none
    | _ => none
  | _ => none
def oIn (x y : PyData) : Option PyData := (inB x y).map .bool
def oNotIn (x y : PyData) : Option PyData := (inB x y).map fun b => .bool (!b)
def rInS (f : Bool → Bool) : R2 := fun x y H Q => ∃ (c : Nat) (z : Str), x = .str ⟨#[c]⟩ ∧ y = .str z ∧ Q (.bl (f (decide (c ∈ z.cps.toList)))) H
def rInA (K : PySem.W.Frag) : R2 := fun x y H Q => rIn K false x y H Q ∨ rInS id x y H Q
def rNotInA (K : PySem.W.Frag) : R2 := fun x y H Q => rIn K true x y H Q ∨ rInS not x y H Q
theorem op_inA : OpR X (compareOp .In) (rInA X.K) := op_in_seq.or op_in_sign
theorem op_notInA : OpR X (compareOp .NotIn) (rNotInA X.K) := op_notIn_seq.or op_notIn_sign
theorem flat_d {x : PyData} {v : V} (h : RepS K H A x v) (f : flatP x = true) : RepD K H A x v := by
  cases h with
  | d h => exact h
  | l _ _ _ => cases f
theorem str_one {w : Str} (h : w.cps.size = 1) : ∃ c, w = ⟨#[c]⟩ := by
  obtain ⟨⟨l⟩⟩ := w
  match l, h with
  | [c], _ => exact ⟨c, rfl⟩
theorem in_shape {x y : PyData} {b : Bool} {vx vy : V} (rx : RepS K H A x vx) (ry : RepS K H A y vy) (h : inB x y = some b) :
    (∃ p xs, vy = .ref p ∧ (SqL K H p xs ∨ SqT K H p xs) ∧ flatV vx = true ∧ xs.all flatV = true ∧ inV vx xs = b) ∨ ∃ (c : Nat) (z : Str), vx = .str ⟨#[c]⟩ ∧ vy = .str z ∧ decide (c ∈ z.cps.toList) = b := by
  unfold inB at h
  split at h
  · split at h
    · rename_i hf
      cases h
      obtain ⟨f1, f2⟩ := Bool.and_eq_true_iff.mp hf
      obtain ⟨a, vs, e1, t, _, r⟩ := ry.tup
      exact .inl ⟨a, vs, e1, .inr t.sq, (flat_d rx f1).flat f1, r.flat f2, r.inV (flat_d rx f1) f1 f2⟩
    · cases h
  · split at h
    · rename_i hf
      cases h
      obtain ⟨f1, f2⟩ := Bool.and_eq_true_iff.mp hf
      obtain ⟨a, vs, e1, t, _, r⟩ := ry.lst
      exact .inl ⟨a, vs, e1, .inl (.inl t), (flat_d rx f1).flat f1, r.flat f2, r.inV (flat_d rx f1) f1 f2⟩
    · cases h
  · split at h
    · split at h
      · rename_i hc
        cases h
        obtain ⟨e1, _⟩ := ry.str
        obtain ⟨e2, _⟩ := rx.str
        obtain ⟨c, hw⟩ := str_one hc
        rw [e2, e1, hw]
        exact .inr ⟨c, _, rfl, rfl, rfl⟩
      · cases h
    · cases h
  · cases h
theorem rs_in : RS K (rInA K) oIn := by
  intro H A x y z vx vy Q hA rx ry hz k
  obtain ⟨b, hb, e⟩ := Option.map_eq_some_iff.mp hz
  subst e
  have q := k _ _ Frm.refl (rep_bl (b := b))
  rcases in_shape rx ry hb with ⟨p, xs, h1, h2, h3, h4, h5⟩ | ⟨c, z, h1, h2, h3⟩
  · exact .inl ⟨p, xs, h1, h2, h3, h4, by rw [if_neg Bool.false_ne_true, h5]; exact q⟩
  · exact .inr ⟨c, z, h1, h2, by show Q (.bl (decide _)) H; rw [h3]; exact q⟩
theorem rs_notIn : RS K (rNotInA K) oNotIn := by
  intro H A x y z vx vy Q hA rx ry hz k
  obtain ⟨b, hb, e⟩ := Option.map_eq_some_iff.mp hz
  subst e
  have q := k _ _ Frm.refl (rep_bl (b := !b))
  rcases in_shape rx ry hb with ⟨p, xs, h1, h2, h3, h4, h5⟩ | ⟨c, z, h1, h2, h3⟩
  · exact .inl ⟨p, xs, h1, h2, h3, h4, by rw [if_pos rfl, h5]; exact q⟩
  · exact .inr ⟨c, z, h1, h2, by show Q (.bl (!decide _)) H; rw [h3]; exact q⟩
/-! ### is None -/
def isNon : PyData → Bool
  | .none => true
  | _ => false
theorem RepD.isNon {d : PyData} {v : V} (h : RepD K H A d v) : decide (v = .non) = DL.isNon d := by
  cases d with
  | none => cases h.non; rfl
  | bool b => cases h.bl; rfl
  | int b => cases h.int; rfl
  | str b => obtain ⟨e, _⟩ := h.str; subst e; rfl
  | tuple xs => obtain ⟨a, vs, e, _⟩ := h.tup; subst e; rfl
  | list xs => obtain ⟨a, vs, e, _⟩ := h.lst; subst e; rfl
  | dict xs => obtain ⟨a, e, _⟩ := h.dic; subst e; rfl
def oIsN (x : PyData) : Option PyData := some (.bool (isNon x))
def oNotN (x : PyData) : Option PyData := some (.bool (!isNon x))
theorem us_isN : US K (fun x H Q => Q (.bl (decide (x = .non))) H) oIsN := by
  intro H A x z vx Q hA rx hz k
  cases hz
  cases rx with
  | d h => show Q (.bl (decide _)) H; rw [h.isNon]; exact k _ _ Frm.refl rep_bl
  | l _ _ _ => exact k _ _ Frm.refl rep_bl
theorem us_notN : US K (fun x H Q => Q (.bl (!decide (x = .non))) H) oNotN := by
  intro H A x z vx Q hA rx hz k
  cases hz
  cases rx with
  | d h => show Q (.bl (!decide _)) H; rw [h.isNon]; exact k _ _ Frm.refl rep_bl
  | l _ _ _ => exact k _ _ Frm.refl rep_bl
theorem de_isN {j : Nat} {p : Pos} (ha : PE X a (tD X.K io fa)) : PE X (.Compare a [.Is] [.Constant .none j p] pos) (tD X.K io (f1 oIsN fa)) := (pe_cmp (pc_isN ha)).imp fun _ _ _ => td1 us_isN
theorem de_notN {j : Nat} {p : Pos} (ha : PE X a (tD X.K io fa)) : PE X (.Compare a [.IsNot] [.Constant .none j p] pos) (tD X.K io (f1 oNotN fa)) := (pe_cmp (pc_notN ha)).imp fun _ _ _ => td1 us_notN
/-! ### an item, a slice -/
def oIx : PyData → PyData → Option PyData
  | .tuple xs, .int i => atI xs i
  | .list xs, .int i => atI xs i
  | .str z, .int i => (atI z.cps.toList i).map fun c => .str ⟨#[c]⟩
  | _, _ => none
theorem RepL.atI {ds : List PyData} {vs : List V} {i : Int} {d : PyData} (h : RepL K H A ds vs) (e : L2.atI ds i = some d) : ∃ v, L2.atI vs i = some v ∧ RepD K H A d v := by
  obtain ⟨j, h1, h2⟩ := Option.bind_eq_some_iff.mp e
  obtain ⟨v, h3, h4⟩ := h.get h2
  exact ⟨v, by show (ixN vs.length i).bind _ = _; rw [h.length, h1]; exact h3, h4⟩
theorem rs_ix : RS K (rIx K) oIx := by
  intro H A x y z vx vy Q hA rx ry hz k
  unfold oIx at hz
  split at hz
  · cases ry.int
    obtain ⟨a, vs, e1, t, _, r⟩ := rx.tup
    obtain ⟨v, h1, h2⟩ := r.atI hz
    exact .inr (.inl ⟨a, vs, _, v, e1, rfl, t.sq, h1, k _ _ Frm.refl h2⟩)
  · cases ry.int
    obtain ⟨a, vs, e1, t, _, r⟩ := rx.lst
    obtain ⟨v, h1, h2⟩ := r.atI hz
    exact .inl ⟨a, vs, _, v, e1, rfl, .inl t, h1, k _ _ Frm.refl h2⟩
  · cases ry.int
    obtain ⟨e1, hl⟩ := rx.str
    obtain ⟨c, h1, h2⟩ := Option.map_eq_some_iff.mp hz
    subst h2
    exact .inr (.inr ⟨_, _, c, e1, rfl, hl, h1, k _ _ Frm.refl (rep_str (by show 1 ≤ sizeLine; decide))⟩)
  · cases hz
def cutP {α : Type} (xs : List α) (lo hi : Option Int) : List α := (xs.drop (HT.sIx xs.length 0 lo)).take (HT.sIx xs.length xs.length hi - HT.sIx xs.length 0 lo)
def oSl : PyData → Option Int → Option Int → Option PyData
  | .tuple xs, lo, hi => some (.tuple (cutP xs lo hi))
  | .list xs, lo, hi => some (.list (cutP xs lo hi))
  | .str z, lo, hi => some (.str (cutS z lo hi))
  | _, _, _ => none
def rSlX (K : PySem.W.Frag) : V → Option Int → Option Int → Hp → VK → Prop := fun x lo hi H Q => rSlA K x lo hi H Q ∨ (rSlL K x lo hi H Q ∨ rSlS x lo hi H Q)
theorem sl_X : SlR X (rSlX X.K) := sl_tupA.or (sl_list.or sl_str)
theorem RepL.cut {ds : List PyData} {vs : List V} (h : RepL K H A ds vs) (lo hi : Option Int) : RepL K H A (cutP ds lo hi) (cutV vs lo hi) := by
  unfold cutP cutV
  rw [h.length]
  exact (h.drop _).take _
theorem cutS_length (z : Str) (lo hi : Option Int) : (cutS z lo hi).length ≤ z.length := by
  show ((z.cps.toList.drop _).take _).toArray.size ≤ _
  rw [List.size_toArray, List.length_take, List.length_drop]
  have : z.cps.toList.length = z.length := by simp [Str.length]
  omega
theorem rs_sl {x z : PyData} {lo hi : Option Int} {vx : V} {Q : VK} (hA : ∀ a, A a → H a ≠ none) (rx : RepS K H A x vx) (hz : oSl x lo hi = some z) (k : ∀ v H', Frm F0 H H' → RepD K H' A z v → Q v H') : rSlX K vx lo hi H Q := by
  unfold oSl at hz
  split at hz
  · cases hz
    obtain ⟨a, vs, e1, t, hl, r⟩ := rx.tup
    refine .inl ⟨a, vs, e1, t.sq, fun hw => ?_, fun _ p hp => ?_⟩
    · have e := r.cut lo hi
      have e' : cutV vs lo hi = vs := by
        unfold cutV
        rw [hw.1, hw.2, List.drop_zero, Nat.sub_zero, List.take_length]
      rw [e'] at e
      exact k _ _ Frm.refl (rep_tup t hl e)
    · exact k _ _ (Frm.new hp) (rep_newT hA hp (Nat.le_trans (cutV_length _ _ _) hl) (r.cut _ _))
  · cases hz
    obtain ⟨a, vs, e1, t, hl, r⟩ := rx.lst
    exact .inr (.inl ⟨a, vs, e1, .inl t, fun p hp => k _ _ (Frm.new hp) (rep_newL hA hp (Nat.le_trans (cutV_length _ _ _) hl) (r.cut _ _))⟩)
  · cases hz
    obtain ⟨e1, hl⟩ := rx.str
    exact .inr (.inr ⟨_, e1, hl, k _ _ Frm.refl (rep_str (Nat.le_trans (cutS_length _ _ _) hl))⟩)
  · cases hz
/-- a part of a slice -/
def asI : PyData → Option (Option Int)
  | .int i => some (some i)
  | _ => none
def pNo : Ev (Option Int) := fun E => some (none, E)
theorem do_none : PO X none (oD X.K io pNo) := po_none.imp fun σ H Q w => by
  obtain ⟨Γ, ad, E, d, E', ok, he, q⟩ := w
  cases he
  exact q _ H Frm.refl ok (Sim.refl E) rfl
theorem do_some (h : PE X a (tD X.K io fa)) : PO X (some a) (oD X.K io (f1 asI fa)) := (po_some h).imp fun σ H Q w => by
  show tD X.K io fa σ H fun x H1 => ∃ i, x = .int i ∧ Q (some i) H1
  refine rd_then (f := fa) (g := fun x E1 => (asI x).map fun z => (z, E1)) (fun _ => rfl) w fun Γ ad E x vx H1 y E1 E2 h1 h2 ok1 fr1 sim1 r1 k => ?_
  obtain ⟨z, hz, e⟩ := Option.map_eq_some_iff.mp h2
  cases e
  cases x with
  | int i => cases hz; exact ⟨i, r1.int, k _ H1 Frm.refl ok1 (Sim.refl _) rfl⟩
  | _ => cases hz
def fSl (fa : Ef) (pl ph : Ev (Option Int)) : Ef := fun E => (fa E).bind fun r => (pl r.2).bind fun l => (ph l.2).bind fun h => (oSl r.1 l.1 h.1).map fun z => (z, h.2)
def fSls (i : Nat) (pl ph : Ev (Option Int)) : Ef := fun E => (ownL i E).bind fun _ => (pl E).bind fun l => (ph l.2).bind fun h => (ownL i h.2).bind fun x => (oSl x l.1 h.1).map fun z => (z, h.2)
variable {lo hi : Option Expr} {pl ph : Ev (Option Int)} {p2 : Pos}
theorem de_sl (he : PE X a (tD X.K io fa)) (hl : PO X lo (oD X.K io pl)) (hh : PO X hi (oD X.K io ph)) : PE X (.Subscript a (.Slice lo hi none p2) pos) (tD X.K io (fSl fa pl ph)) :=
  (pe_slice sl_X he hl hh).imp fun σ H Q w => by
    show tD X.K io fa σ H fun x H1 => oD X.K io pl σ H1 fun l H2 => oD X.K io ph σ H2 fun u H3 => rSlX X.K x l u H3 Q
    refine rd_then (f := fa) (g := fun x E1 => (pl E1).bind fun l => (ph l.2).bind fun h => (oSl x l.1 h.1).map fun z => (z, h.2)) (fun _ => rfl) w fun Γ ad E x vx H1 y E1 E2 h1 h2 ok1 fr1 sim1 r1 k => ?_
    obtain ⟨⟨l, E3⟩, h3, h4⟩ := Option.bind_eq_some_iff.mp h2
    obtain ⟨⟨h, E4⟩, h5, h6⟩ := Option.bind_eq_some_iff.mp h4
    obtain ⟨z, hz, e⟩ := Option.map_eq_some_iff.mp h6
    cases e
    refine ⟨Γ, ad, E1, l, E3, ok1, h3, fun vl H2 fr2 ok2 sim2 r2 => ⟨Γ, ad, E3, h, E4, ok2, h5, fun vh H3 fr3 ok3 sim3 r3 => ?_⟩⟩
    cases r2
    cases r3
    have r1' := (Go.frm fr2 ok1.wa).rep x vx (by rw [sim1.Ao]; exact r1)
    have r1'' := (Go.frm fr3 ok2.wa).rep x vx (by rw [sim2.Ao]; exact r1')
    have sim := sim2.trans sim3
    refine rs_sl (A := Ao Γ io ad E1) (fun a h => ok3.on a (by rw [sim.Ao]; exact h)) (.d (by rw [sim2.Ao] at r1''; exact r1'')) hz fun v H4 fr4 r4 => ?_
    rw [sim2.Wo] at fr3
    exact k v H4 ((fr2.trans' fr3).trans' fr4.of0) (ok3.new fr4) sim r4
theorem de_sls {i : Nat} (he : PE X a (tVar i)) (hl : PO X lo (oD X.K io pl)) (hh : PO X hi (oD X.K io ph)) : PE X (.Subscript a (.Slice lo hi none p2) pos) (tD X.K io (fSls i pl ph)) :=
  (pe_slice sl_X he hl hh).imp fun σ H Q w => by
    obtain ⟨Γ, ad, E, d, E', ok, he, q⟩ := w
    obtain ⟨x0, h0, he⟩ := Option.bind_eq_some_iff.mp he
    obtain ⟨⟨l, E3⟩, h3, h4⟩ := Option.bind_eq_some_iff.mp he
    obtain ⟨⟨h, E4⟩, h5, h6⟩ := Option.bind_eq_some_iff.mp h4
    obtain ⟨x, h7, h8⟩ := Option.bind_eq_some_iff.mp h6
    obtain ⟨z, hz, e⟩ := Option.map_eq_some_iff.mp h8
    cases e
    refine ⟨_, (ownL_rep ok h0).1, Γ, ad, E, l, E3, ok, h3, fun vl H2 fr2 ok2 sim2 r2 => ⟨Γ, ad, E3, h, E4, ok2, h5, fun vh H3 fr3 ok3 sim3 r3 => ?_⟩⟩
    cases r2
    cases r3
    have sim := sim2.trans sim3
    obtain ⟨_, r1⟩ := ownL_rep ok3 h7
    rw [sim.Ao] at r1
    refine rs_sl (A := Ao Γ io ad E) (fun a h => ok3.on a (by rw [sim.Ao]; exact h)) r1 hz fun v H4 fr4 r4 => ?_
    rw [sim2.Wo] at fr3
    exact q v H4 ((fr2.trans' fr3).trans' fr4.of0) (ok3.new fr4) sim r4
/-- the operators of an own list -/
theorem de_bin_l {op : Operator} {r : R2} {g : PyData → PyData → Option PyData} {i : Nat} (ho : OpR X (binaryOp op) r) (hr : RS X.K r g) (ha : PE X a (tVar i)) (hb : PE X b (tD X.K io fb)) :
    PE X (.BinOp a op b pos) (tD X.K io (f2l g i fb)) := (pe_op ho ha hb).imp fun _ _ _ => td2l hr
theorem de_bin_r {op : Operator} {r : R2} {g : PyData → PyData → Option PyData} {i : Nat} (ho : OpR X (binaryOp op) r) (hr : RS X.K r g) (ha : PE X a (tD X.K io fa)) (hb : PE X b (tVar i)) :
    PE X (.BinOp a op b pos) (tD X.K io (f2r g fa i)) := (pe_op ho ha hb).imp fun _ _ _ => td2r hr
theorem de_cmp_l {op : CmpOp} {r : R2} {g : PyData → PyData → Option PyData} {i : Nat} (ho : OpR X (compareOp op) r) (hr : RS X.K r g) (ha : PE X a (tVar i)) (hb : PE X b (tD X.K io fb)) (hm : behindInMarks op b = false) :
    PE X (.Compare a [op] [b] pos) (tD X.K io (f2l g i fb)) := (pe_cmpR ho ha hb hm).imp fun _ _ _ => td2l hr
theorem de_cmp_r {op : CmpOp} {r : R2} {g : PyData → PyData → Option PyData} {i : Nat} (ho : OpR X (compareOp op) r) (hr : RS X.K r g) (ha : PE X a (tD X.K io fa)) (hb : PE X b (tVar i)) (hm : behindInMarks op b = false) :
    PE X (.Compare a [op] [b] pos) (tD X.K io (f2r g fa i)) := (pe_cmpR ho ha hb hm).imp fun _ _ _ => td2r hr
theorem de_ix_l {r : R2} {g : PyData → PyData → Option PyData} {i : Nat} (ho : IxR X r) (hr : RS X.K r g) (ha : PE X a (tVar i)) (hb : PE X b (tD X.K io fb)) (hs : PlainIx b) :
    PE X (.Subscript a b pos) (tD X.K io (f2l g i fb)) := (pe_ix ho ha hb hs).imp fun _ _ _ => td2l hr
end
end DL

namespace DL
open PySem PySem.Spec PyProof.Rows L2

section
variable {X : Cx} {K : PySem.W.Frag} {H : Hp} {A : Addr → Prop} {io : List Nat} {a b c e : Expr} {es rest : List Expr} {fa fb fc : Ef} {fr : Af} {ga gb : Ev Bool} {pos : Pos}
/-! ### built-in functions -/
def oLen : List PyData → Option PyData
  | [.str x] => some (.int x.length)
  | [.tuple xs] => some (.int xs.length)
  | [.list xs] => some (.int xs.length)
  | _ => none
theorem cs_len : CS K (fun xs H Q => ∃ x n, xs = [x] ∧ LenV K x H n ∧ Q (.int n) H) oLen := by
  intro H A ds z vs Q hA rs hz k
  unfold oLen at hz
  split at hz
  · cases hz
    obtain ⟨v, e, r⟩ := rs.one
    obtain ⟨e1, hl⟩ := r.str
    subst e e1
    exact ⟨_, _, rfl, ⟨hl, rfl⟩, k _ _ Frm.refl rep_int⟩
  · cases hz
    obtain ⟨v, e, r⟩ := rs.one
    obtain ⟨p, vs, e1, t, hl, r'⟩ := r.tup
    subst e e1
    exact ⟨_, _, rfl, .inr ⟨_, t.sq, rfl⟩, k _ _ Frm.refl (by rw [r'.length]; exact rep_int)⟩
  · cases hz
    obtain ⟨v, e, r⟩ := rs.one
    obtain ⟨p, vs, e1, t, hl, r'⟩ := r.lst
    subst e e1
    exact ⟨_, _, rfl, .inl ⟨_, .inl t, rfl⟩, k _ _ Frm.refl (by rw [r'.length]; exact rep_int)⟩
  · cases hz
def oAbs : List PyData → Option PyData
  | [.int i] => some (.int (if i < 0 then -i else i))
  | _ => none
theorem cs_abs : CS K (fun xs H Q => ∃ i, xs = [.int i] ∧ Q (.int (if i < 0 then -i else i)) H) oAbs := by
  intro H A ds z vs Q hA rs hz k
  unfold oAbs at hz
  split at hz
  · cases hz
    obtain ⟨v, e, r⟩ := rs.one
    cases r.int
    subst e
    exact ⟨_, rfl, k _ _ Frm.refl rep_int⟩
  · cases hz
def oMax : List PyData → Option PyData
  | [.int i, .int j] => some (.int (if j > i then j else i))
  | _ => none
theorem cs_max : CS K (fun xs H Q => ∃ i j, xs = [.int i, .int j] ∧ Q (.int (if j > i then j else i)) H) oMax := by
  intro H A ds z vs Q hA rs hz k
  unfold oMax at hz
  split at hz
  · cases hz
    obtain ⟨v, u, e, r, r2⟩ := rs.two
    cases r.int
    cases r2.int
    subst e
    exact ⟨_, _, rfl, k _ _ Frm.refl rep_int⟩
  · cases hz
def oMin : List PyData → Option PyData
  | [.int i, .int j] => some (.int (if j < i then j else i))
  | _ => none
theorem cs_min : CS K (fun xs H Q => ∃ i j, xs = [.int i, .int j] ∧ Q (.int (if j < i then j else i)) H) oMin := by
  intro H A ds z vs Q hA rs hz k
  unfold oMin at hz
  split at hz
  · cases hz
    obtain ⟨v, u, e, r, r2⟩ := rs.two
    cases r.int
    cases r2.int
    subst e
    exact ⟨_, _, rfl, k _ _ Frm.refl rep_int⟩
  · cases hz
def oInt : List PyData → Option PyData
  | [.int i] => some (.int i)
  | [.bool b] => some (.int (if b then 1 else 0))
  | _ => none
theorem cs_int : CS K (fun xs H Q => (∃ i, xs = [.int i] ∧ Q (.int i) H) ∨ ∃ k, xs = [.bl k] ∧ Q (.int (if k then 1 else 0)) H) oInt := by
  intro H A ds z vs Q hA rs hz k
  unfold oInt at hz
  split at hz
  · cases hz
    obtain ⟨v, e, r⟩ := rs.one
    cases r.int
    subst e
    exact .inl ⟨_, rfl, k _ _ Frm.refl rep_int⟩
  · cases hz
    obtain ⟨v, e, r⟩ := rs.one
    cases r.bl
    subst e
    exact .inr ⟨_, rfl, k _ _ Frm.refl rep_int⟩
  · cases hz
def oTup : List PyData → Option PyData
  | [.list xs] => some (.tuple xs)
  | [.tuple xs] => some (.tuple xs)
  | _ => none
theorem cs_tup : CS K (fun xs H Q => ∃ p ys, xs = [.ref p] ∧ ((SqL K H p ys ∧ ∀ l, H l = none → Q (.ref l) (upd H l (.tup ys))) ∨ (SqT K H p ys ∧ Q (.ref p) H))) oTup := by
  intro H A ds z vs Q hA rs hz k
  unfold oTup at hz
  split at hz
  · cases hz
    obtain ⟨v, e, r⟩ := rs.one
    obtain ⟨p, vs, e1, t, hl, r'⟩ := r.lst
    subst e e1
    exact ⟨_, _, rfl, .inl ⟨.inl t, fun l hp => k _ _ (Frm.new hp) (rep_newT hA hp hl r')⟩⟩
  · cases hz
    obtain ⟨v, e, r⟩ := rs.one
    obtain ⟨p, vs, e1, t, hl, r'⟩ := r.tup
    subst e e1
    exact ⟨_, _, rfl, .inr ⟨t.sq, k _ _ Frm.refl (rep_tup t hl r')⟩⟩
  · cases hz
def oList : List PyData → Option PyData
  | [.list xs] => some (.list xs)
  | [.tuple xs] => some (.list xs)
  | _ => none
theorem cs_list : CS K (fun xs H Q => ∃ p ys, xs = [.ref p] ∧ (SqL K H p ys ∨ SqT K H p ys) ∧ ∀ l, H l = none → Q (.ref l) (upd H l (.lst ys))) oList := by
  intro H A ds z vs Q hA rs hz k
  unfold oList at hz
  split at hz
  · cases hz
    obtain ⟨v, e, r⟩ := rs.one
    obtain ⟨p, vs, e1, t, hl, r'⟩ := r.lst
    subst e e1
    exact ⟨_, _, rfl, .inl (.inl t), fun l hp => k _ _ (Frm.new hp) (rep_newL hA hp hl r')⟩
  · cases hz
    obtain ⟨v, e, r⟩ := rs.one
    obtain ⟨p, vs, e1, t, hl, r'⟩ := r.tup
    subst e e1
    exact ⟨_, _, rfl, .inr t.sq, fun l hp => k _ _ (Frm.new hp) (rep_newL hA hp hl r')⟩
  · cases hz
def asB : PyData → Option Bool
  | .bool b => some b
  | _ => none
def allB : List PyData → Option (List Bool)
  | [] => some []
  | d :: ds => (asB d).bind fun b => (allB ds).map fun bs => b :: bs
theorem allB_rep : ∀ {ds : List PyData} {vs : List V} {bs : List Bool}, RepL K H A ds vs → allB ds = some bs → vs = bs.map V.bl
  | [], vs, bs, r, h => by cases h; unfold RepL at r; exact r
  | d :: ds, vs, bs, r, h => by
    obtain ⟨b, h1, h2⟩ := Option.bind_eq_some_iff.mp h
    obtain ⟨bs', h3, h4⟩ := Option.map_eq_some_iff.mp h2
    subst h4
    unfold RepL at r
    obtain ⟨v, r', e, r1, r2⟩ := r
    subst e
    cases d with
    | bool b' => cases h1; cases r1.bl; rw [allB_rep r2 h3] <;> rfl
    | _ => cases h1
def oAll : List PyData → Option PyData
  | [.list xs] => (allB xs).map fun bs => .bool (bs.all id)
  | _ => none
def oAny : List PyData → Option PyData
  | [.list xs] => (allB xs).map fun bs => .bool (bs.any id)
  | _ => none
theorem cs_all : CS K (rAll K) oAll := by
  intro H A ds z vs Q hA rs hz k
  unfold oAll at hz
  split at hz
  · obtain ⟨bs, h1, h2⟩ := Option.map_eq_some_iff.mp hz
    subst h2
    obtain ⟨v, e, r⟩ := rs.one
    obtain ⟨p, vs, e1, t, hl, r'⟩ := r.lst
    subst e e1
    exact ⟨_, bs, rfl, .inl (by rw [← allB_rep r' h1]; exact t), k _ _ Frm.refl rep_bl⟩
  · cases hz
theorem cs_any : CS K (rAny K) oAny := by
  intro H A ds z vs Q hA rs hz k
  unfold oAny at hz
  split at hz
  · obtain ⟨bs, h1, h2⟩ := Option.map_eq_some_iff.mp hz
    subst h2
    obtain ⟨v, e, r⟩ := rs.one
    obtain ⟨p, vs, e1, t, hl, r'⟩ := r.lst
    subst e e1
    exact ⟨_, bs, rfl, .inl (by rw [← allB_rep r' h1]; exact t), k _ _ Frm.refl rep_bl⟩
  · cases hz
/-! ### isinstance -/
def pyTy : PyData → String
  | .none => "NoneType"
  | .bool _ => "bool"
  | .int _ => "int"
  | .str _ => "str"
  | .list _ => "list"
  | .tuple _ => "tuple"
  | .dict _ => "dict"
theorem RepD.ty {d : PyData} {v : V} (h : RepD K H A d v) : TyX K H v (.type (pyTy d)) := by
  cases d with
  | none => cases h.non; exact .base .non
  | bool b => cases h.bl; exact .base (.bl b)
  | int b => cases h.int; exact .base (.int b)
  | str b => obtain ⟨e, _⟩ := h.str; subst e; exact .base (.str b)
  | tuple xs =>
    obtain ⟨a, vs, e, t, _⟩ := h.tup
    subst e
    rcases t with ⟨_, t | ⟨o, t⟩⟩ | (t | ⟨o, t⟩) | ⟨o, its, n, t, c, _⟩
    · exact .base (.tup t)
    · exact .fTuple t
    · cases t
    · cases t
    · exact .kTuple t c
  | list xs =>
    obtain ⟨a, vs, e, ⟨_, t | ⟨o, t⟩⟩, _⟩ := h.lst
    · subst e; exact .base (.lst t)
    · subst e; exact .base (.frz t)
  | dict xs => obtain ⟨a, e, _, _, t⟩ := h.dic; subst e; exact .base (.dK t)
def isTup : PyData → Bool
  | .tuple _ => true
  | _ => false
def isStr : PyData → Bool
  | .str _ => true
  | _ => false
def isBool : PyData → Bool
  | .bool _ => true
  | _ => false
def isInt : PyData → Bool
  | .bool _ => true
  | .int _ => true
  | _ => false
def isList : PyData → Bool
  | .list _ => true
  | _ => false
def isDict : PyData → Bool
  | .dict _ => true
  | _ => false
theorem kb_tup : ∀ d, kitB (pyTy d) "tuple" = some (isTup d)
  | .none => by decide +kernel
  | .bool _ => by show kitB "bool" "tuple" = some false; decide +kernel
  | .int _ => by show kitB "int" "tuple" = some false; decide +kernel
  | .str _ => by show kitB "str" "tuple" = some false; decide +kernel
  | .list _ => by show kitB "list" "tuple" = some false; decide +kernel
  | .tuple _ => by show kitB "tuple" "tuple" = some true; decide +kernel
  | .dict _ => by show kitB "dict" "tuple" = some false; decide +kernel
theorem kb_str : ∀ d, kitB (pyTy d) "str" = some (isStr d)
  | .none => by decide +kernel
  | .bool _ => by show kitB "bool" "str" = some false; decide +kernel
  | .int _ => by show kitB "int" "str" = some false; decide +kernel
  | .str _ => by show kitB "str" "str" = some true; decide +kernel
  | .list _ => by show kitB "list" "str" = some false; decide +kernel
  | .tuple _ => by show kitB "tuple" "str" = some false; decide +kernel
  | .dict _ => by show kitB "dict" "str" = some false; decide +kernel
theorem kb_bool : ∀ d, kitB (pyTy d) "bool" = some (isBool d)
  | .none => by decide +kernel
  | .bool _ => by show kitB "bool" "bool" = some true; decide +kernel
  | .int _ => by show kitB "int" "bool" = some false; decide +kernel
  | .str _ => by show kitB "str" "bool" = some false; decide +kernel
  | .list _ => by show kitB "list" "bool" = some false; decide +kernel
  | .tuple _ => by show kitB "tuple" "bool" = some false; decide +kernel
  | .dict _ => by show kitB "dict" "bool" = some false; decide +kernel
theorem kb_int : ∀ d, kitB (pyTy d) "int" = some (isInt d)
  | .none => by decide +kernel
  | .bool _ => by show kitB "bool" "int" = some true; decide +kernel
  | .int _ => by show kitB "int" "int" = some true; decide +kernel
  | .str _ => by show kitB "str" "int" = some false; decide +kernel
  | .list _ => by show kitB "list" "int" = some false; decide +kernel
  | .tuple _ => by show kitB "tuple" "int" = some false; decide +kernel
  | .dict _ => by show kitB "dict" "int" = some false; decide +kernel
theorem kb_list : ∀ d, kitB (pyTy d) "list" = some (isList d)
  | .none => by decide +kernel
  | .bool _ => by show kitB "bool" "list" = some false; decide +kernel
  | .int _ => by show kitB "int" "list" = some false; decide +kernel
  | .str _ => by show kitB "str" "list" = some false; decide +kernel
  | .list _ => by show kitB "list" "list" = some true; decide +kernel
  | .tuple _ => by show kitB "tuple" "list" = some false; decide +kernel
  | .dict _ => by show kitB "dict" "list" = some false; decide +kernel
def oIs (p : PyData → Bool) (x : PyData) : Option PyData := some (.bool (p x))
theorem de_isi {T : String} {q : PyData → Bool} {p p2 : Pos} {x : Str} (kb : ∀ d, kitB (pyTy d) T = some (q d)) (hg : Gl X "isinstance") (hm : X.mg "isinstance" = none) (ha : PE X a (tD X.K io fa)) (hT : PE X (.Name x p2) (tC (.ty T)))
    (hs : starEach [a, .Name x p2] X.env = (false, eval a X.env) :: starEach [.Name x p2] X.env := by rfl) (hpl : (backTo pos (starEach [.Name x p2] X.env)).any (·.1) = false := by rfl) :
    PE X (.Call (.Name "isinstance" p) [a, .Name x p2] [] pos) (tD X.K io (f1 (oIs q) fa)) :=
  (pe_callB call_isi hg hm boot_isinstance (pa_cons ha (pa_cons hT pa_nil) hs) (by decide) (by decide) hs hpl).imp fun σ H Q w => by
    show tD X.K io fa σ H fun x H1 => rIsi X.K [x, .ty T] H1 Q
    refine td1 (r := fun x H1 Q => rIsi X.K [x, .ty T] H1 Q) ?_ w
    intro H A x z vx Q hA rx hz k
    cases hz
    cases rx with
    | d h => exact ⟨vx, _, _, _, _, rfl, .ty T, h.ty, kit_ty (kb x), k _ _ Frm.refl rep_bl⟩
    | @l p xs vs t _ _ => exact ⟨_, _, _, _, _, rfl, .ty T, .base (t.elim (fun t => .lst t) fun ⟨o, t⟩ => .frz t), kit_ty (kb (.list xs)), k _ _ Frm.refl rep_bl⟩
/-! ### displays -/
def fTup (fr : Af) : Ef := fB (fun ds => some (.tuple ds)) fr
def fLst (fr : Af) : Ef := fB (fun ds => some (.list ds)) fr
theorem RepG.repL {ad : Nat → Addr} : ∀ {gs : List G} {ds : List PyData} {vs : List V}, gs = ds.map G.v → RepG ad K H A gs vs → RepL K H A ds vs
  | _, [], vs, e, r => by subst e; unfold RepG at r; subst r; exact repL_nil
  | _, d :: ds, vs, e, r => by
    subst e
    obtain ⟨v, r', e, r1, r2⟩ := r
    subst e
    exact repL_cons r1 (RepG.repL rfl r2)
/-- plain things alone -/
def onlyV : List G → Option (List PyData)
  | [] => some []
  | .v d :: gs => (onlyV gs).map fun ds => d :: ds
  | .s _ :: _ => none
theorem onlyV_map : ∀ {gs : List G} {ds : List PyData}, onlyV gs = some ds → gs = ds.map G.v
  | [], ds, h => by cases h; rfl
  | .v d :: gs, ds, h => by
    obtain ⟨ds', h1, h2⟩ := Option.map_eq_some_iff.mp h
    subst h2
    rw [onlyV_map h1] <;> rfl
  | .s _ :: _, _, h => by cases h
def fDisp (mk : List PyData → PyData) (fr : Af) : Ef := fun E => (fr E).bind fun r => (onlyV r.1).bind fun ds => if ds.length ≤ sizeLine then some (mk ds, r.2) else none
theorem de_tup {x1} (h : PA X es (aD X.K io fr)) : PE X (.Tuple es x1 pos) (tD X.K io (fDisp .tuple fr)) := (pe_tup h).imp fun σ H Q w => by
  show aD X.K io fr σ H fun xs H1 => xs.length ≤ sizeLine ∧ ∀ p, H1 p = none → Q (.ref p) (upd H1 p (.tup xs))
  refine rd_then (f := fr) (g := fun x E1 => (onlyV x).bind fun ds => if ds.length ≤ sizeLine then some (PyData.tuple ds, E1) else none) (fun _ => rfl) w fun Γ ad E x vx H1 y E1 E2 h1 h2 ok1 fr1 sim1 r1 k => ?_
  obtain ⟨ds, h3, h4⟩ := Option.bind_eq_some_iff.mp h2
  split at h4
  · rename_i hl
    cases h4
    have r := RepG.repL (onlyV_map h3) r1
    have hz : vx.length ≤ sizeLine := by rw [r.length]; exact hl
    refine ⟨hz, fun p hp => ?_⟩
    exact k _ _ (Frm.new hp).of0 (ok1.new (Frm.new hp)) (Sim.refl _) (by rw [sim1.Ao]; exact rep_newT (fun a h => ok1.on a (by rw [sim1.Ao]; exact h)) hp hz r)
  · cases h4
theorem de_lst (h : PA X es (aD X.K io fr)) : PE X (.List es pos) (tD X.K io (fDisp .list fr)) := (pe_lst h).imp fun σ H Q w => by
  show aD X.K io fr σ H fun xs H1 => xs.length ≤ sizeLine ∧ ∀ p, H1 p = none → Q (.ref p) (upd H1 p (.lst xs))
  refine rd_then (f := fr) (g := fun x E1 => (onlyV x).bind fun ds => if ds.length ≤ sizeLine then some (PyData.list ds, E1) else none) (fun _ => rfl) w fun Γ ad E x vx H1 y E1 E2 h1 h2 ok1 fr1 sim1 r1 k => ?_
  obtain ⟨ds, h3, h4⟩ := Option.bind_eq_some_iff.mp h2
  split at h4
  · rename_i hl
    cases h4
    have r := RepG.repL (onlyV_map h3) r1
    have hz : vx.length ≤ sizeLine := by rw [r.length]; exact hl
    refine ⟨hz, fun p hp => ?_⟩
    exact k _ _ (Frm.new hp).of0 (ok1.new (Frm.new hp)) (Sim.refl _) (by rw [sim1.Ao]; exact rep_newL (fun a h => ok1.on a (by rw [sim1.Ao]; exact h)) hp hz r)
  · cases h4
theorem de_emp {pos : Pos} (h : PE X (.Dict [] [] pos) (fun _ H Q => ∀ d, H d = none → Q (.ref d) (upd H d (.dK [])))) : PE X (.Dict [] [] pos) (tD X.K io (fC (.dict []))) := h.imp fun σ H Q w => by
  obtain ⟨Γ, ad, E, d', E', ok, he, q⟩ := w
  cases he
  intro p hp
  exact q _ _ (Frm.new hp).of0 (ok.new (Frm.new hp)) (Sim.refl E) (by unfold RepD; exact ⟨p, rfl, rfl, fun z => ok.on p z hp, upd_same⟩)
/-! ### truth, and, or, not, if -/
def truD : PyData → Option Bool
  | .none => some false
  | .bool b => some b
  | .int i => some (i != 0)
  | .str x => some ((x.length : Int) != 0)
  | .tuple xs => some (!xs.isEmpty)
  | .list xs => some (!xs.isEmpty)
  | .dict _ => some false
theorem isEmpty_len {α β : Type} {xs : List α} {ys : List β} (h : xs.length = ys.length) : xs.isEmpty = ys.isEmpty := by
  cases xs <;> cases ys <;> simp at h <;> rfl
theorem RepS.tru {d : PyData} {v : V} {k : Bool} (h : RepS K H A d v) (e : truD d = some k) : TruV K v H k := by
  cases d with
  | none => cases h.non; cases e; rfl
  | bool b => cases h.bl; cases e; rfl
  | int b => cases h.int; cases e; rfl
  | str b => obtain ⟨e1, hl⟩ := h.str; subst e1; cases e; exact ⟨hl, rfl⟩
  | tuple xs => obtain ⟨a, vs, e1, t, _, r⟩ := h.tup; subst e1; cases e; exact .inr (.inl ⟨vs, t.sq, by rw [isEmpty_len r.length]⟩)
  | list xs => obtain ⟨a, vs, e1, t, _, r⟩ := h.lst; subst e1; cases e; exact .inl ⟨vs, .inl t, by rw [isEmpty_len r.length]⟩
  | dict xs =>
    cases h with
    | d h => obtain ⟨a, e1, _, _, t⟩ := h.dic; subst e1; cases e; exact .inr (.inr ⟨[], t, rfl⟩)
theorem dt_val (ha : PE X a (tD X.K io fa)) (he : ∀ whole, isTrue a X.env whole = (do let v ← whole; standAt a.pos; holding [v] (truthy v)) := by intro _; rfl) : PT X a (cD X.K io (f1 truD fa)) :=
  (pt_truth ha he).imp fun σ H Q w => by
    show tD X.K io fa σ H fun x H' => ∃ k, TruV X.K x H' k ∧ Q k H'
    refine rd_then (f := fa) (g := fun x E1 => (truD x).map fun z => (z, E1)) (fun _ => rfl) w fun Γ ad E x vx H1 y E1 E2 h1 h2 ok1 fr1 sim1 r1 k => ?_
    obtain ⟨z, hz, e⟩ := Option.map_eq_some_iff.mp h2
    cases e
    exact ⟨_, RepS.tru (.d r1) hz, k _ H1 Frm.refl ok1 (Sim.refl _) rfl⟩
/-- a comparison as a test -/
theorem td2t {r : R2} {g : PyData → PyData → Option PyData} (hr : RS X.K r g) {σ : L2.St} {H : Hp} {Q : Bool → Hp → Prop} (w : cD X.K io (f1 asB (f2 g fa fb)) σ H Q) : tTest (tOp r (tD X.K io fa) (tD X.K io fb)) σ H Q := by
  refine td2 hr ?_
  refine rd_then (f := f2 g fa fb) (g := fun x E1 => (asB x).map fun z => (z, E1)) (fun _ => rfl) w fun Γ ad E x vx H1 y E1 E2 h1 h2 ok1 fr1 sim1 r1 k => ?_
  obtain ⟨z, hz, e⟩ := Option.map_eq_some_iff.mp h2
  cases e
  cases x with
  | bool b => cases hz; exact ⟨_, r1.bl, k _ H1 Frm.refl ok1 (Sim.refl _) rfl⟩
  | _ => cases hz
theorem dt_cmp {op : CmpOp} {r : R2} {g : PyData → PyData → Option PyData} (ho : OpR X (compareOp op) r) (hr : RS X.K r g) (ha : PE X a (tD X.K io fa)) (hb : PE X b (tD X.K io fb)) (hm : behindInMarks op b = false) :
    PT X (.Compare a [op] [b] pos) (cD X.K io (f1 asB (f2 g fa fb))) := (pt_cmpR ho ha hb hm).imp fun _ _ _ => td2t hr
theorem dt_of {h : Ef} {t : TE} (ht : ∀ σ H Q, tD X.K io h σ H Q → t σ H Q) {σ : L2.St} {H : Hp} {Q : Bool → Hp → Prop} (w : cD X.K io (f1 asB h) σ H Q) : t σ H fun x H' => ∃ k, x = .bl k ∧ Q k H' := by
  refine ht _ _ _ ?_
  refine rd_then (f := h) (g := fun x E1 => (asB x).map fun z => (z, E1)) (fun _ => rfl) w fun Γ ad E x vx H1 y E1 E2 h1 h2 ok1 fr1 sim1 r1 k => ?_
  obtain ⟨z, hz, e⟩ := Option.map_eq_some_iff.mp h2
  cases e
  cases x with
  | bool b => cases hz; exact ⟨_, r1.bl, k _ H1 Frm.refl ok1 (Sim.refl _) rfl⟩
  | _ => cases hz
theorem dt_cmp_l {op : CmpOp} {r : R2} {g : PyData → PyData → Option PyData} {i : Nat} (ho : OpR X (compareOp op) r) (hr : RS X.K r g) (ha : PE X a (tVar i)) (hb : PE X b (tD X.K io fb)) (hm : behindInMarks op b = false) :
    PT X (.Compare a [op] [b] pos) (cD X.K io (f1 asB (f2l g i fb))) := (pt_cmpR ho ha hb hm).imp fun _ _ _ => dt_of fun _ _ _ => td2l hr
theorem dt_cmp_r {op : CmpOp} {r : R2} {g : PyData → PyData → Option PyData} {i : Nat} (ho : OpR X (compareOp op) r) (hr : RS X.K r g) (ha : PE X a (tD X.K io fa)) (hb : PE X b (tVar i)) (hm : behindInMarks op b = false) :
    PT X (.Compare a [op] [b] pos) (cD X.K io (f1 asB (f2r g fa i))) := (pt_cmpR ho ha hb hm).imp fun _ _ _ => dt_of fun _ _ _ => td2r hr
theorem dt_isN {j : Nat} {p : Pos} (ha : PE X a (tD X.K io fa)) : PT X (.Compare a [.Is] [.Constant .none j p] pos) (cD X.K io (f1 asB (f1 oIsN fa))) := (pt_cmp (pc_isN ha)).imp fun _ _ _ => dt_of (t := tIsN (tD X.K io fa)) fun _ _ _ => td1 us_isN
theorem dt_notN {j : Nat} {p : Pos} (ha : PE X a (tD X.K io fa)) : PT X (.Compare a [.IsNot] [.Constant .none j p] pos) (cD X.K io (f1 asB (f1 oNotN fa))) := (pt_cmp (pc_notN ha)).imp fun _ _ _ => dt_of (t := tNotN (tD X.K io fa)) fun _ _ _ => td1 us_notN
/-- a < b < c -/
def fChain (g g' : PyData → PyData → Option PyData) (fa fb fc : Ef) : Ef := fun E => (fa E).bind fun r => (fb r.2).bind fun s => ((g r.1 s.1).bind asB).bind fun k => if k then (fc s.2).bind fun t => (g' s.1 t.1).map fun z => (z, t.2) else some (.bool false, s.2)
theorem dt_not (ha : PT X a (cD X.K io ga)) : PT X (.UnaryOp .Not a pos) (cD X.K io (f1 (fun c => some (!c)) ga)) := (pt_not ha).imp fun σ H Q w => by
  show cD X.K io ga σ H fun c H1 => Q (!c) H1
  refine rd_then (f := ga) (g := fun x E1 => some (!x, E1)) (fun _ => rfl) w fun Γ ad E x vx H1 y E1 E2 h1 h2 ok1 fr1 sim1 r1 k => ?_
  cases h2
  cases r1
  exact k _ H1 Frm.refl ok1 (Sim.refl _) rfl
def fAnd (ga gb : Ev Bool) : Ev Bool := fun E => (ga E).bind fun r => if r.1 = true then gb r.2 else some (false, r.2)
def fOr (ga gb : Ev Bool) : Ev Bool := fun E => (ga E).bind fun r => if r.1 = true then some (true, r.2) else gb r.2
theorem dw_and1 (ha : PT X a (cD X.K io ga)) : PW X (.BoolOp .And [a] pos) (cD X.K io ga) := pw_and1 ha
theorem dw_or1 (ha : PT X a (cD X.K io ga)) : PW X (.BoolOp .Or [a] pos) (cD X.K io ga) := pw_or1 ha
theorem dw_and (ha : PT X a (cD X.K io ga)) (hb : PW X (.BoolOp .And (b :: rest) pos) (cD X.K io gb)) : PW X (.BoolOp .And (a :: b :: rest) pos) (cD X.K io (fAnd ga gb)) := (pw_and ha hb).imp fun σ H Q w => by
  show cD X.K io ga σ H fun c H1 => if c = true then cD X.K io gb σ H1 Q else Q false H1
  refine rd_then (f := ga) (g := fun x E1 => if x = true then gb E1 else some (false, E1)) (fun _ => rfl) w fun Γ ad E x vx H1 y E1 E2 h1 h2 ok1 fr1 sim1 r1 k => ?_
  cases r1
  cases x with
  | true => exact ⟨Γ, ad, E1, y, E2, ok1, h2, fun v H' f ok s r => k v H' f ok s r⟩
  | false => cases h2; exact k _ H1 Frm.refl ok1 (Sim.refl _) rfl
theorem dw_or (ha : PT X a (cD X.K io ga)) (hb : PW X (.BoolOp .Or (b :: rest) pos) (cD X.K io gb)) : PW X (.BoolOp .Or (a :: b :: rest) pos) (cD X.K io (fOr ga gb)) := (pw_or ha hb).imp fun σ H Q w => by
  show cD X.K io ga σ H fun c H1 => if c = true then Q true H1 else cD X.K io gb σ H1 Q
  refine rd_then (f := ga) (g := fun x E1 => if x = true then some (true, E1) else gb E1) (fun _ => rfl) w fun Γ ad E x vx H1 y E1 E2 h1 h2 ok1 fr1 sim1 r1 k => ?_
  cases r1
  cases x with
  | true => cases h2; exact k _ H1 Frm.refl ok1 (Sim.refl _) rfl
  | false => exact ⟨Γ, ad, E1, y, E2, ok1, h2, fun v H' f ok s r => k v H' f ok s r⟩
def fAndV (fa fb : Ef) : Ef := fun E => (fa E).bind fun r => (truD r.1).bind fun k => if k = true then fb r.2 else some r
def fOrV (fa fb : Ef) : Ef := fun E => (fa E).bind fun r => (truD r.1).bind fun k => if k = true then some r else fb r.2
theorem de_one {op} (h : PE X a (tD X.K io fa)) : PE X (.BoolOp op [a] pos) (tD X.K io fa) := pe_one h
theorem de_and (ha : PE X a (tD X.K io fa)) (hb : PE X (.BoolOp .And (b :: rest) pos) (tD X.K io fb)) : PE X (.BoolOp .And (a :: b :: rest) pos) (tD X.K io (fAndV fa fb)) := (pe_andT ha hb).imp fun σ H Q w => by
  show tD X.K io fa σ H fun x H1 => ∃ k, TruV X.K x H1 k ∧ if k = true then tD X.K io fb σ H1 Q else Q x H1
  refine rd_then (f := fa) (g := fun x E1 => (truD x).bind fun k => if k = true then fb E1 else some (x, E1)) (fun _ => rfl) w fun Γ ad E x vx H1 y E1 E2 h1 h2 ok1 fr1 sim1 r1 k => ?_
  obtain ⟨c, hc, h3⟩ := Option.bind_eq_some_iff.mp h2
  refine ⟨c, RepS.tru (.d r1) hc, ?_⟩
  cases c with
  | true => exact ⟨Γ, ad, E1, y, E2, ok1, h3, fun v H' f ok s r => k v H' f ok s r⟩
  | false => cases h3; exact k _ H1 Frm.refl ok1 (Sim.refl _) (by rw [sim1.Ao]; exact r1)
theorem de_or (ha : PE X a (tD X.K io fa)) (hb : PE X (.BoolOp .Or (b :: rest) pos) (tD X.K io fb)) : PE X (.BoolOp .Or (a :: b :: rest) pos) (tD X.K io (fOrV fa fb)) := (pe_orT ha hb).imp fun σ H Q w => by
  show tD X.K io fa σ H fun x H1 => ∃ k, TruV X.K x H1 k ∧ if k = true then Q x H1 else tD X.K io fb σ H1 Q
  refine rd_then (f := fa) (g := fun x E1 => (truD x).bind fun k => if k = true then some (x, E1) else fb E1) (fun _ => rfl) w fun Γ ad E x vx H1 y E1 E2 h1 h2 ok1 fr1 sim1 r1 k => ?_
  obtain ⟨c, hc, h3⟩ := Option.bind_eq_some_iff.mp h2
  refine ⟨c, RepS.tru (.d r1) hc, ?_⟩
  cases c with
  | false => exact ⟨Γ, ad, E1, y, E2, ok1, h3, fun v H' f ok s r => k v H' f ok s r⟩
  | true => cases h3; exact k _ H1 Frm.refl ok1 (Sim.refl _) (by rw [sim1.Ao]; exact r1)
theorem de_not (ha : PE X a (tD X.K io fa)) : PE X (.UnaryOp .Not a pos) (tD X.K io (f1 (fun x => (truD x).map fun k => .bool (!k)) fa)) := (pe_notT ha).imp fun σ H Q w => by
  show tD X.K io fa σ H fun x H1 => ∃ k, TruV X.K x H1 k ∧ Q (.bl (!k)) H1
  refine td1 (r := fun x H1 Q => ∃ k, TruV X.K x H1 k ∧ Q (.bl (!k)) H1) ?_ w
  intro H A x z vx Q hA rx hz k
  obtain ⟨c, hc, e⟩ := Option.map_eq_some_iff.mp hz
  subst e
  exact ⟨c, rx.tru hc, k _ _ Frm.refl rep_bl⟩
def fIf (gc : Ev Bool) (fa fb : Ef) : Ef := fun E => (gc E).bind fun r => if r.1 = true then fa r.2 else fb r.2
theorem de_if (hc : PT X c (cD X.K io ga)) (ha : PE X a (tD X.K io fa)) (hb : PE X b (tD X.K io fb)) : PE X (.IfExp c a b pos) (tD X.K io (fIf ga fa fb)) := (pe_ifExp hc ha hb).imp fun σ H Q w => by
  show cD X.K io ga σ H fun c H1 => if c = true then tD X.K io fa σ H1 Q else tD X.K io fb σ H1 Q
  refine rd_then (f := ga) (g := fun x E1 => if x = true then fa E1 else fb E1) (fun _ => rfl) w fun Γ ad E x vx H1 y E1 E2 h1 h2 ok1 fr1 sim1 r1 k => ?_
  cases r1
  cases x with
  | true => exact ⟨Γ, ad, E1, y, E2, ok1, h2, fun v H' f ok s r => k v H' f ok s r⟩
  | false => exact ⟨Γ, ad, E1, y, E2, ok1, h2, fun v H' f ok s r => k v H' f ok s r⟩
end
end DL

namespace DL
open PySem PySem.Spec PyProof.Rows L2

/-! ### targets: which slot is given what -/
def setE (E : Env') : List (Nat × PyData) → Env'
  | [] => E
  | p :: ps => setE (E.set p.1 (B.v p.2)) ps
def setS (σ : L2.St) : List (Nat × V) → L2.St
  | [] => σ
  | p :: ps => setS (σ.set p.1 (some p.2)) ps
def SetR (K : PySem.W.Frag) (H : Hp) (A : Addr → Prop) : List (Nat × PyData) → List (Nat × V) → Prop
  | [], ws => ws = []
  | p :: ps, ws => ∃ v r, ws = (p.1, v) :: r ∧ RepD K H A p.2 v ∧ SetR K H A ps r
theorem SetR.append {K : PySem.W.Frag} {H : Hp} {A : Addr → Prop} : ∀ {ps qs : List (Nat × PyData)} {ws us : List (Nat × V)}, SetR K H A ps ws → SetR K H A qs us → SetR K H A (ps ++ qs) (ws ++ us)
  | [], _, _, _, h, h' => by unfold SetR at h; subst h; exact h'
  | p :: ps, qs, ws, us, h, h' => by
    obtain ⟨v, r, e, h1, h2⟩ := h
    subst e
    exact ⟨v, r ++ us, rfl, h1, SetR.append h2 h'⟩
theorem setS_append (σ : L2.St) : ∀ (ps qs : List (Nat × V)), setS σ (ps ++ qs) = setS (setS σ ps) qs
  | [], _ => rfl
  | p :: ps, qs => setS_append _ ps qs
abbrev Tf := PyData → Option (List (Nat × PyData))
def gD (K : PySem.W.Frag) (τ : Tf) : TG := fun v σ H Q => ∃ A d as, RepD K H A d v ∧ τ d = some as ∧ ∀ ws, SetR K H A as ws → Q (setS σ ws) H
def gsD (K : PySem.W.Frag) (τ : List PyData → Option (List (Nat × PyData))) : TGs := fun vs σ H Q => ∃ A ds as, RepL K H A ds vs ∧ τ ds = some as ∧ ∀ ws, SetR K H A as ws → Q (setS σ ws) H
def τN (i : Nat) : Tf := fun d => some [(i, d)]
def τNil : List PyData → Option (List (Nat × PyData))
  | [] => some []
  | _ => none
def τCons (t : Tf) (u : List PyData → Option (List (Nat × PyData))) : List PyData → Option (List (Nat × PyData))
  | d :: ds => (t d).bind fun a => (u ds).map fun b => a ++ b
  | _ => none
def τT (n : Nat) (u : List PyData → Option (List (Nat × PyData))) : Tf
  | .tuple ds => if ds.length = n then u ds else none
  | _ => none
theorem _root_.L2.PG.imp {X : Cx} {e : Expr} {t t' : TG} (h : PG X e t) (k : ∀ v σ H Q, t' v σ H Q → t v σ H Q) : PG X e t' := ⟨fun pins s σ H v u Q I r w => h.run pins s σ H v u Q I r (k v σ H Q w)⟩
theorem _root_.L2.PGs.imp {X : Cx} {e : List Expr} {t t' : TGs} (h : PGs X e t) (k : ∀ v σ H Q, t' v σ H Q → t v σ H Q) : PGs X e t' := ⟨fun pins s σ H v u Q I r w => h.run pins s σ H v u Q I r (k v σ H Q w)⟩
section
variable {X : Cx} {K : PySem.W.Frag} {io : List Nat} {a b c e : Expr} {es : List Expr} {fa fb fc : Ef} {fr : Af} {ga gb : Ev Bool} {pos : Pos}
theorem dg_name {i : Nat} {x : Str} (h : PG X (.Name x pos) (gName i)) : PG X (.Name x pos) (gD X.K (τN i)) := h.imp fun v σ H Q w => by
  obtain ⟨A, d, as, r, e, q⟩ := w
  cases e
  exact q [(i, v)] ⟨v, [], rfl, r, by unfold SetR; rfl⟩
theorem dg_nil : PGs X [] (gsD X.K τNil) := pgs_nil.imp fun vs σ H Q w => by
  obtain ⟨A, d, as, r, e, q⟩ := w
  cases d with
  | nil => cases e; unfold RepL at r; exact ⟨r, q [] (by unfold SetR; rfl)⟩
  | cons d ds => cases e
theorem dg_cons {t : Tf} {u : List PyData → Option (List (Nat × PyData))} (h1 : PG X e (gD X.K t)) (h2 : PGs X es (gsD X.K u))
    (hs : (assignEach (e :: es) X.env).map (·.2) = assign e X.env :: (assignEach es X.env).map (·.2) := by rfl) : PGs X (e :: es) (gsD X.K (τCons t u)) := (pgs_cons h1 h2 hs).imp fun vs σ H Q w => by
  obtain ⟨A, ds, as, r, e, q⟩ := w
  cases ds with
  | nil => cases e
  | cons d ds =>
    obtain ⟨x, h3, h4⟩ := Option.bind_eq_some_iff.mp e
    obtain ⟨y, h5, h6⟩ := Option.map_eq_some_iff.mp h4
    subst h6
    unfold RepL at r
    obtain ⟨v, r', e1, r1, r2⟩ := r
    refine ⟨v, r', e1, A, d, x, r1, h3, fun ws hw => ⟨A, ds, y, r2, h5, fun us hu => ?_⟩⟩
    rw [← setS_append]
    exact q _ (hw.append hu)
theorem dg_tup {k : Nat} {u : List PyData → Option (List (Nat × PyData))} {n : Nat} (hc : X.calm = true) (h : PGs X es (gsD X.K u))
    (hn : (assignEach es X.env).length = n := by rfl) (hst : (assignEach es X.env).findIdx? (·.1) = none := by rfl) : PG X (.Tuple es k pos) (gD X.K (τT n u)) := (pg_tup hc h hn hst).imp fun v σ H Q w => by
  obtain ⟨A, d, as, r, e, q⟩ := w
  unfold τT at e
  split at e
  · split at e
    · rename_i hl
      obtain ⟨p, vs, e1, t, _, r'⟩ := r.tup
      exact ⟨p, vs, e1, t.sq, by rw [r'.length]; exact hl, A, _, as, r', e, q⟩
    · cases e
  · cases e
end

/-! ### statements -/
inductive O where
  | nx (E : Env') | rt (d : PyData) (E : Env') | bk (E : Env') | ct (E : Env')
abbrev Sf := Env' → Option O
structure Step (Γ : Gm) (io : List Nat) (ad : Nat → Addr) (E : Env') (H : Hp) (ad' : Nat → Addr) (E' : Env') (H' : Hp) : Prop where
  fr : Frm (Wo Γ io ad E) H H'
  own : ∀ a, Own io ad' E' a → Own io ad E a ∨ H a = none
  io : ∀ i ∈ io, ad' i = ad i
theorem frm_none {W : Addr → Prop} {H H' : Hp} (f : Frm W H H') {a : Addr} (h : H' a = none) : H a = none := by
  cases q : H a with
  | none => rfl
  | some o => exact absurd h (f.on a (by rw [q]; exact fun z => nomatch z))
theorem Step.trans {Γ : Gm} {io : List Nat} {ad ad1 ad2 : Nat → Addr} {E E1 E2 : Env'} {H H1 H2 : Hp} (a : Step Γ io ad E H ad1 E1 H1) (b : Step Γ io ad1 E1 H1 ad2 E2 H2) : Step Γ io ad E H ad2 E2 H2 where
  fr := a.fr.trans b.fr fun x h => by
    rcases h with h | h
    · exact .inl (.inl h)
    · exact (a.own x h).imp .inr id
  own := fun x h => by
    rcases b.own x h with h | h
    · exact a.own x h
    · exact .inr (frm_none a.fr h)
  io := fun i h => (b.io i h).trans (a.io i h)
theorem Step.sim {Γ : Gm} {io : List Nat} {ad : Nat → Addr} {E E' : Env'} {H H' : Hp} (f : Frm (Wo Γ io ad E) H H') (s : Sim E E') : Step Γ io ad E H ad E' H' := ⟨f, fun a h => .inl (by rw [s.Own] at h; exact h), fun _ _ => rfl⟩
theorem Step.go {Γ : Gm} {io : List Nat} {ad ad' : Nat → Addr} {E E' : Env'} {H H' : Hp} (s : Step Γ io ad E H ad' E' H') (hw : ∀ a, Γ.W a → Γ.A a) : Go H (Ao Γ io ad E) H' (Ao Γ io ad' E') :=
  ⟨fun a o h n => s.fr.eq a o h fun z => n (z.elim (fun z => .inl (hw a z)) .inr), fun a h => h.elim (fun z => .inl (.inl z)) fun z => (s.own a z).imp .inr id⟩
def Post (K : PySem.W.Frag) (io : List Nat) (Dn : Ends) (Γ : Gm) (ad : Nat → Addr) (E : Env') (H : Hp) : O → Prop
  | .nx E' => ∀ σ' H' ad', Step Γ io ad E H ad' E' H' → EOk K Γ io ad' σ' H' E' → Dn.nx σ' H'
  | .bk E' => ∀ σ' H' ad', Step Γ io ad E H ad' E' H' → EOk K Γ io ad' σ' H' E' → Dn.bk σ' H'
  | .ct E' => ∀ σ' H' ad', Step Γ io ad E H ad' E' H' → EOk K Γ io ad' σ' H' E' → Dn.ct σ' H'
  | .rt d E' => ∀ v σ' H' ad', Step Γ io ad E H ad' E' H' → EOk K Γ io ad' σ' H' E' → RepD K H' Γ.A d v → Dn.rt v H'
def sD (K : PySem.W.Frag) (io : List Nat) (f : Sf) : TS := fun Dn σ H => ∃ Γ ad E o, EOk K Γ io ad σ H E ∧ f E = some o ∧ Post K io Dn Γ ad E H o
section
variable {X : Cx} {K : PySem.W.Frag} {io : List Nat} {a b c e : Expr} {es : List Expr} {fa fb fc : Ef} {fr : Af} {ga gb : Ev Bool} {pos : Pos} {f g h : Sf} {st : Stmt} {sts : List Stmt}
def sSeq (f g : Sf) : Sf := fun E => (f E).bind fun o => match o with
  | .nx E1 => g E1
  | o => some o
theorem Post.after {Dn : Ends} {Γ : Gm} {ad ad1 : Nat → Addr} {E E1 : Env'} {H H1 : Hp} {o : O} (s : Step Γ io ad E H ad1 E1 H1) (p : Post K io Dn Γ ad E H o) : Post K io Dn Γ ad1 E1 H1 o := by
  cases o with
  | nx E2 => exact fun σ' H' ad' s' ok => p σ' H' ad' (s.trans s') ok
  | bk E2 => exact fun σ' H' ad' s' ok => p σ' H' ad' (s.trans s') ok
  | ct E2 => exact fun σ' H' ad' s' ok => p σ' H' ad' (s.trans s') ok
  | rt d E2 => exact fun v σ' H' ad' s' ok r => p v σ' H' ad' (s.trans s') ok r
theorem sD_seq {Dn : Ends} {σ : L2.St} {H : Hp} (w : sD K io (sSeq f g) Dn σ H) : sD K io f { Dn with nx := sD K io g Dn } σ H := by
  obtain ⟨Γ, ad, E, o, ok, he, p⟩ := w
  obtain ⟨o1, h1, h2⟩ := Option.bind_eq_some_iff.mp he
  refine ⟨Γ, ad, E, o1, ok, h1, ?_⟩
  cases o1 with
  | nx E1 => exact fun σ' H' ad' s' ok' => ⟨Γ, ad', E1, o, ok', h2, p.after s'⟩
  | bk E1 => cases h2; exact p
  | ct E1 => cases h2; exact p
  | rt d E1 => cases h2; exact p
def sNil : Sf := fun E => some (.nx E)
theorem ds_nil : PSs X [] (sD X.K io sNil) := pss_nil.imp fun Dn σ H w => by
  obtain ⟨Γ, ad, E, o, ok, he, p⟩ := w
  cases he
  exact p σ H ad (Step.sim Frm.refl (Sim.refl E)) ok
theorem ds_cons (h1 : PS X st (sD X.K io f)) (h2 : PSs X sts (sD X.K io g)) : PSs X (st :: sts) (sD X.K io (sSeq f g)) := (pss_cons h1 h2).imp fun Dn σ H w => sD_seq w
theorem ds_one (h1 : PS X st (sD X.K io f)) : PSs X [st] (sD X.K io f) := pss_one h1
theorem ds_pass : PS X (.Pass pos) (sD X.K io sNil) := ps_pass.imp fun Dn σ H w => by
  obtain ⟨Γ, ad, E, o, ok, he, p⟩ := w
  cases he
  exact p σ H ad (Step.sim Frm.refl (Sim.refl E)) ok
def sBk : Sf := fun E => some (.bk E)
def sCt : Sf := fun E => some (.ct E)
theorem ds_break : PS X (.Break pos) (sD X.K io sBk) := ps_break.imp fun Dn σ H w => by
  obtain ⟨Γ, ad, E, o, ok, he, p⟩ := w
  cases he
  exact p σ H ad (Step.sim Frm.refl (Sim.refl E)) ok
theorem ds_continue : PS X (.Continue pos) (sD X.K io sCt) := ps_continue.imp fun Dn σ H w => by
  obtain ⟨Γ, ad, E, o, ok, he, p⟩ := w
  cases he
  exact p σ H ad (Step.sim Frm.refl (Sim.refl E)) ok
def sRet (fa : Ef) : Sf := fun E => (fa E).map fun r => .rt r.1 r.2
theorem ao_A {Γ : Gm} {ad : Nat → Addr} {E : Env'} : ∀ a, Γ.A a → Ao Γ io ad E a := fun _ h => .inl h
theorem ds_ret (he : PE X a (tD X.K io fa)) : PS X (.Return (some a) pos) (sD X.K io (sRet fa)) := (ps_ret he).imp fun Dn σ H w => by
  obtain ⟨Γ, ad, E, o, ok, he, p⟩ := w
  obtain ⟨⟨d, E1⟩, h1, h2⟩ := Option.map_eq_some_iff.mp he
  cases h2
  exact ⟨Γ, ad, E, d, E1, ok, h1, fun v H' fr ok' sim r => p v σ H' ad (Step.sim fr sim) ok' ((Go.less ao_A).rep d v r)⟩
def sRetN : Sf := fun E => some (.rt .none E)
theorem ds_retN : PS X (.Return none pos) (sD X.K io sRetN) := ps_retN.imp fun Dn σ H w => by
  obtain ⟨Γ, ad, E, o, ok, he, p⟩ := w
  cases he
  exact p .non σ H ad (Step.sim Frm.refl (Sim.refl E)) ok rep_non
/-- an own list is given out -/
def sRetO (i : Nat) : Sf := fun E => match E[i]? with
  | some (B.o (.lst xs)) => some (.rt (.list xs) E)
  | _ => none
theorem ds_retO {i : Nat} (hio : i ∉ io) (he : PE X a (tVar i)) : PS X (.Return (some a) pos) (sD X.K io (sRetO i)) := (ps_ret he).imp fun Dn σ H w => by
  obtain ⟨Γ, ad, E, o, ok, he, p⟩ := w
  unfold sRetO at he
  split at he
  · rename_i xs hd
    cases he
    obtain ⟨h1, vs, h2, h3, h4⟩ := ok.ob i _ hd
    refine ⟨_, h1, p _ σ H ad (Step.sim Frm.refl (Sim.refl E)) ok ?_⟩
    exact rep_lst ⟨(ok.obn i _ hd hio).2, .inl h2⟩ h3 ((Go.less ao_A).repL xs vs h4)
  · cases he
def sIf (gc : Ev Bool) (f g : Sf) : Sf := fun E => (gc E).bind fun r => if r.1 = true then f r.2 else g r.2
theorem ds_if {p q : List Stmt} (hc : PT X c (cD X.K io ga)) (ha : PSs X p (sD X.K io f)) (hb : PSs X q (sD X.K io g)) : PS X (.If c p q pos) (sD X.K io (sIf ga f g)) := (ps_if hc ha hb).imp fun Dn σ H w => by
  obtain ⟨Γ, ad, E, o, ok, he, p⟩ := w
  obtain ⟨⟨k, E1⟩, h1, h2⟩ := Option.bind_eq_some_iff.mp he
  refine ⟨Γ, ad, E, k, E1, ok, h1, fun v H' fr ok' sim r => ?_⟩
  cases r
  cases k with
  | true => exact ⟨Γ, ad, E1, o, ok', h2, p.after (Step.sim fr sim)⟩
  | false => exact ⟨Γ, ad, E1, o, ok', h2, p.after (Step.sim fr sim)⟩
def sExpr (fa : Ef) : Sf := fun E => (fa E).map fun r => .nx r.2
theorem ds_expr (he : PE X a (tD X.K io fa)) (hs : swapsWith a none pos.line X.env = pure false := by rfl) : PS X (.Expr a pos) (sD X.K io (sExpr fa)) := (ps_expr he hs).imp fun Dn σ H w => by
  obtain ⟨Γ, ad, E, o, ok, he, p⟩ := w
  obtain ⟨⟨d, E1⟩, h1, h2⟩ := Option.map_eq_some_iff.mp he
  cases h2
  exact ⟨Γ, ad, E, d, E1, ok, h1, fun v H' fr ok' sim r => p σ H' ad (Step.sim fr sim) ok'⟩
/-! ### names are given things -/
theorem EOk.set1 {Γ : Gm} {ad : Nat → Addr} {σ : L2.St} {H : Hp} {E : Env'} (ok : EOk K Γ io ad σ H E) {i : Nat} (hi : i ∉ io) {d : PyData} {v : V} (r : RepD K H (Ao Γ io ad E) d v) :
    EOk K Γ io ad (σ.set i (some v)) H (E.set i (B.v d)) ∧ ∀ a, Own io ad (E.set i (B.v d)) a → Own io ad E a := by
  have back : ∀ (j : Nat) (m : M), (E.set i (B.v d))[j]? = some (B.o m) → E[j]? = some (B.o m) := fun j m z => by
    by_cases q : i = j
    · subst q
      by_cases hl : i < E.length
      · rw [List.getElem?_set_self hl] at z; cases z
      · rw [List.set_eq_of_length_le (by omega)] at z; exact z
    · rw [List.getElem?_set_ne q] at z; exact z
  have sub : ∀ a, Own io ad (E.set i (B.v d)) a → Own io ad E a := fun a ⟨j, m, h1, h2, h3⟩ => ⟨j, m, h1, back j m h2, h3⟩
  have g : Go H (Ao Γ io ad E) H (Ao Γ io ad (E.set i (B.v d))) := Go.less fun a h => h.elim .inl fun z => .inr (sub a z)
  refine ⟨⟨by rw [List.length_set, List.length_set]; exact ok.len, ok.w, ok.oA, ok.hk, fun j d' z => ?_, fun j m z => ?_, fun j m z => ok.obi j m (back j m z), fun j m z => ok.obn j m (back j m z), fun j k m m' z1 z2 => ok.inj j k m m' (back j m z1) (back k m' z2)⟩, sub⟩
  · by_cases q : i = j
    · subst q
      have hl : i < E.length := by
        have := (List.getElem?_eq_some_iff.mp z).1
        rw [List.length_set] at this; exact this
      rw [List.getElem?_set_self hl] at z
      cases z
      exact ⟨v, List.getElem?_set_self (by rw [ok.len]; exact hl), g.rep d v r⟩
    · rw [List.getElem?_set_ne q] at z
      obtain ⟨u, h1, h2⟩ := ok.vl j d' z
      exact ⟨u, by rw [List.getElem?_set_ne q]; exact h1, g.rep d' u h2⟩
  · have z' := back j m z
    have q : i ≠ j := fun q => by
      subst q
      have hl : i < E.length := (List.getElem?_eq_some_iff.mp z').1
      rw [List.getElem?_set_self hl] at z
      cases z
    obtain ⟨h1, h2⟩ := ok.ob j m z'
    refine ⟨by rw [List.getElem?_set_ne q]; exact h1, ?_⟩
    cases m with
    | lst xs => obtain ⟨vs, z0, z1, z2⟩ := h2; exact ⟨vs, z0, z1, g.repL xs vs z2⟩
theorem EOk.sets {Γ : Gm} {ad : Nat → Addr} {H : Hp} : ∀ {as : List (Nat × PyData)} {ws : List (Nat × V)} {σ : L2.St} {E : Env'}, EOk K Γ io ad σ H E → (∀ p ∈ as, p.1 ∉ io) → SetR K H (Ao Γ io ad E) as ws →
    EOk K Γ io ad (setS σ ws) H (setE E as) ∧ ∀ a, Own io ad (setE E as) a → Own io ad E a
  | [], ws, σ, E, ok, _, r => by unfold SetR at r; subst r; exact ⟨ok, fun _ h => h⟩
  | p :: ps, ws, σ, E, ok, hio, r => by
    obtain ⟨v, r', e, r1, r2⟩ := r
    subst e
    obtain ⟨ok1, sub1⟩ := ok.set1 (hio p List.mem_cons_self) r1
    have g : Go H (Ao Γ io ad E) H (Ao Γ io ad (E.set p.1 (B.v p.2))) := Go.less fun a h => h.elim .inl fun z => .inr (sub1 a z)
    have lift : ∀ {qs : List (Nat × PyData)} {us : List (Nat × V)}, SetR K H (Ao Γ io ad E) qs us → SetR K H (Ao Γ io ad (E.set p.1 (B.v p.2))) qs us := by
      intro qs
      induction qs with
      | nil => intro us h; exact h
      | cons q qs ih => intro us ⟨v, r, e, h1, h2⟩; exact ⟨v, r, e, g.rep _ _ h1, ih h2⟩
    obtain ⟨ok2, sub2⟩ := EOk.sets ok1 (fun q hq => hio q (List.mem_cons_of_mem _ hq)) (lift r2)
    exact ⟨ok2, fun a h => sub1 a (sub2 a h)⟩
/-- the slots of a target are not of the in-out ones -/
def TOk (io : List Nat) (τ : Tf) : Prop := ∀ d as, τ d = some as → ∀ p ∈ as, p.1 ∉ io
theorem tok_n {i : Nat} (h : i ∉ io) : TOk io (τN i) := fun d as e p hp => by cases e; cases List.mem_singleton.mp hp; exact h
def TsOk (io : List Nat) (τ : List PyData → Option (List (Nat × PyData))) : Prop := ∀ d as, τ d = some as → ∀ p ∈ as, p.1 ∉ io
theorem tok_nil : TsOk io τNil := fun d as e p hp => by
  cases d with
  | nil => cases e; cases hp
  | cons _ _ => cases e
theorem tok_cons {t : Tf} {u : List PyData → Option (List (Nat × PyData))} (h1 : TOk io t) (h2 : TsOk io u) : TsOk io (τCons t u) := fun d as e p hp => by
  cases d with
  | nil => cases e
  | cons d ds =>
    obtain ⟨x, h3, h4⟩ := Option.bind_eq_some_iff.mp e
    obtain ⟨y, h5, h6⟩ := Option.map_eq_some_iff.mp h4
    subst h6
    rcases List.mem_append.mp hp with h | h
    · exact h1 d x h3 p h
    · exact h2 ds y h5 p h
theorem tok_t {u : List PyData → Option (List (Nat × PyData))} {n : Nat} (h2 : TsOk io u) : TOk io (τT n u) := fun d as e p hp => by
  unfold τT at e
  split at e
  · split at e
    · exact h2 _ as e p hp
    · cases e
  · cases e
def sAsg (fa : Ef) (τ : Tf) : Sf := fun E => (fa E).bind fun r => (τ r.1).map fun as => .nx (setE r.2 as)
theorem sD_asg {τ : Tf} (ht : TOk io τ) {Dn : Ends} {σ : L2.St} {H : Hp} (w : sD K io (sAsg fa τ) Dn σ H) : tAsg (tD K io fa) (gD K τ) Dn σ H := by
  obtain ⟨Γ, ad, E, o, ok, he, p⟩ := w
  obtain ⟨⟨d, E1⟩, h1, h2⟩ := Option.bind_eq_some_iff.mp he
  obtain ⟨as, h3, h4⟩ := Option.map_eq_some_iff.mp h2
  subst h4
  refine ⟨Γ, ad, E, d, E1, ok, h1, fun v H' fr ok' sim r => ⟨Ao Γ io ad E, d, as, r, h3, fun ws hw => ?_⟩⟩
  obtain ⟨ok2, sub⟩ := ok'.sets (ht d as h3) (by rw [sim.Ao]; exact hw)
  exact p _ H' ad ⟨fr, fun a h => .inl (by have := sub a h; rw [sim.Own] at this; exact this), fun _ _ => rfl⟩ ok2
theorem ds_asg {τ : Tf} {tg : Expr} (ht : TOk io τ) (he : PE X a (tD X.K io fa)) (hg : PG X tg (gD X.K τ)) (hs : swapsWithSole [tg] a pos.line X.env = pure false := by rfl) (hw : swappedStores [tg] a X.env = pure none := by rfl)
    (h1 : (assignEach [tg] X.env).map (·.2) = [assign tg X.env] := by rfl) : PS X (.Assign [tg] a pos) (sD X.K io (sAsg fa τ)) := (ps_asg he hg hs hw h1).imp fun Dn σ H w => sD_asg ht w
/-- a name -/
theorem ds_set {i : Nat} {x : Str} {p : Pos} (hi : i ∉ io) (h : PE X a (tD X.K io fa) → PS X (.Assign [.Name x p] a pos) (tAsg (tD X.K io fa) (gName i))) (he : PE X a (tD X.K io fa)) : PS X (.Assign [.Name x p] a pos) (sD X.K io (sAsg fa (τN i))) :=
  (h he).imp fun Dn σ H w => by
    have w' := sD_asg (τ := τN i) (tok_n hi) w
    obtain ⟨Γ, ad, E, d, E1, ok, h1, k⟩ := w'
    refine ⟨Γ, ad, E, d, E1, ok, h1, fun v H' fr ok' sim r => ?_⟩
    obtain ⟨A, d', as, r', e, q⟩ := k v H' fr ok' sim r
    cases e
    exact q [(i, v)] ⟨v, [], rfl, r', by unfold SetR; rfl⟩
/-- a, b = x, y, no pair made -/
def sPar2 (i j : Nat) (fr : Af) : Sf := fun E => (fr E).bind fun r => (onlyV r.1).bind fun ds => match ds with
  | [x, y] => some (.nx (setE r.2 [(i, x), (j, y)]))
  | _ => none
theorem ds_par2 {i j : Nat} (hi : i ∉ io) (hj : j ∉ io) (h : PS X st (tPar i j (aD X.K io fr))) : PS X st (sD X.K io (sPar2 i j fr)) := h.imp fun Dn σ H w => by
  obtain ⟨Γ, ad, E, o, ok, he, p⟩ := w
  obtain ⟨⟨gs, E1⟩, h1, h2⟩ := Option.bind_eq_some_iff.mp he
  obtain ⟨ds, h3, h4⟩ := Option.bind_eq_some_iff.mp h2
  split at h4
  · rename_i x y
    cases h4
    refine ⟨Γ, ad, E, gs, E1, ok, h1, fun vs H' fr ok' sim r => ?_⟩
    have r' := RepG.repL (onlyV_map h3) r
    unfold RepL at r'
    obtain ⟨v, r1, e, q1, r'⟩ := r'
    unfold RepL at r'
    obtain ⟨u, r2, e2, q2, r'⟩ := r'
    unfold RepL at r'
    subst r' e2 e
    refine ⟨v, u, rfl, ?_⟩
    obtain ⟨ok2, sub⟩ := ok'.sets (as := [(i, x), (j, y)]) (ws := [(i, v), (j, u)]) (fun p hp => by
      rcases List.mem_cons.mp hp with e | hp
      · subst e; exact hi
      · cases List.mem_singleton.mp hp; exact hj) (by rw [sim.Ao]; exact ⟨v, _, rfl, q1, u, _, rfl, q2, by unfold SetR; rfl⟩)
    exact p _ H' ad ⟨fr, fun a h => .inl (by have := sub a h; rw [sim.Own] at this; exact this), fun _ _ => rfl⟩ ok2
  · cases h4
def sPar3 (i j l : Nat) (fr : Af) : Sf := fun E => (fr E).bind fun r => (onlyV r.1).bind fun ds => match ds with
  | [x, y, z] => some (.nx (setE r.2 [(i, x), (j, y), (l, z)]))
  | _ => none
theorem ds_par3 {i j l : Nat} (hi : i ∉ io) (hj : j ∉ io) (hl : l ∉ io) (h : PS X st (tPar3 i j l (aD X.K io fr))) : PS X st (sD X.K io (sPar3 i j l fr)) := h.imp fun Dn σ H w => by
  obtain ⟨Γ, ad, E, o, ok, he, p⟩ := w
  obtain ⟨⟨gs, E1⟩, h1, h2⟩ := Option.bind_eq_some_iff.mp he
  obtain ⟨ds, h3, h4⟩ := Option.bind_eq_some_iff.mp h2
  split at h4
  · rename_i x y z
    cases h4
    refine ⟨Γ, ad, E, gs, E1, ok, h1, fun vs H' fr ok' sim r => ?_⟩
    have r' := RepG.repL (onlyV_map h3) r
    unfold RepL at r'
    obtain ⟨v, r1, e, q1, r'⟩ := r'
    unfold RepL at r'
    obtain ⟨u, r2, e2, q2, r'⟩ := r'
    unfold RepL at r'
    obtain ⟨t, r3, e3, q3, r'⟩ := r'
    unfold RepL at r'
    subst r' e3 e2 e
    refine ⟨v, u, t, rfl, ?_⟩
    obtain ⟨ok2, sub⟩ := ok'.sets (as := [(i, x), (j, y), (l, z)]) (ws := [(i, v), (j, u), (l, t)]) (fun p hp => by
      rcases List.mem_cons.mp hp with e | hp
      · subst e; exact hi
      · rcases List.mem_cons.mp hp with e | hp
        · subst e; exact hj
        · cases List.mem_singleton.mp hp; exact hl) (by rw [sim.Ao]; exact ⟨v, _, rfl, q1, u, _, rfl, q2, t, _, rfl, q3, by unfold SetR; rfl⟩)
    exact p _ H' ad ⟨fr, fun a h => .inl (by have := sub a h; rw [sim.Own] at this; exact this), fun _ _ => rfl⟩ ok2
  · cases h4
end
end DL

namespace DL
open PySem PySem.Spec PyProof.Rows L2

section
variable {X : Cx} {K : PySem.W.Frag} {io : List Nat} {a b c e x : Expr} {es : List Expr} {fa fb fc : Ef} {fr : Af} {ga gb : Ev Bool} {pos : Pos} {f g h : Sf} {st : Stmt} {sts : List Stmt}
/-! ### own lists are changed -/
def getO (i : Nat) (E : Env') : Option (List PyData) := match E[i]? with
  | some (B.o (.lst xs)) => some xs
  | _ => none
theorem getO_at {i : Nat} {E : Env'} {xs : List PyData} (h : getO i E = some xs) : E[i]? = some (B.o (.lst xs)) := by
  unfold getO at h
  split at h
  · rename_i hd; cases h; exact hd
  · cases h
theorem EOk.getO {Γ : Gm} {ad : Nat → Addr} {σ : L2.St} {H : Hp} {E : Env'} (ok : EOk K Γ io ad σ H E) {i : Nat} {xs : List PyData} (h : DL.getO i E = some xs) :
    σ[i]? = some (some (.ref (ad i))) ∧ ∃ vs, H (ad i) = some (.lst vs) ∧ vs.length ≤ sizeLine ∧ RepL K H (Ao Γ io ad E) xs vs := ok.ob i _ (getO_at h)
def sApp (i : Nat) (fa : Ef) : Sf := fun E => (getO i E).bind fun _ => (fa E).bind fun r => (getO i r.2).bind fun xs => if xs.length < sizeLine then some (.nx (r.2.set i (B.o (.lst (xs ++ [r.1]))))) else none
theorem ds_app {i : Nat} (hx : PE X x (tVar i)) (he : PE X e (tD X.K io fa)) (h : PE X e (tD X.K io fa) → PS X st (tDrop (tBM X.K "list" rAppend (tVar i) (tCons (tD X.K io fa) tNil)))) : PS X st (sD X.K io (sApp i fa)) := (h he).imp fun Dn σ H w => by
  obtain ⟨Γ, ad, E, o, ok, he, p⟩ := w
  obtain ⟨xs0, h0, he⟩ := Option.bind_eq_some_iff.mp he
  obtain ⟨⟨d, E1⟩, h1, h2⟩ := Option.bind_eq_some_iff.mp he
  obtain ⟨xs, h3, h4⟩ := Option.bind_eq_some_iff.mp h2
  split at h4
  · rename_i hl
    cases h4
    obtain ⟨e1, vs0, q1, q2, q3⟩ := ok.getO h0
    refine ⟨_, e1, .inl ⟨rfl, vs0, .inl (.inl q1)⟩, Γ, ad, E, d, E1, ok, h1, fun v H' fr ok' sim r => ?_⟩
    obtain ⟨e2, vs, z1, z2, z3⟩ := ok'.getO h3
    have lv := z3.length
    refine ⟨_, vs, v, rfl, rfl, z1, by omega, ?_⟩
    obtain ⟨ok2, fr2, sim2⟩ := ok'.put (vs := vs ++ [v]) (xs := xs ++ [d]) (getO_at h3) (by rw [List.length_append, List.length_singleton]; omega) (z3.append (repL_cons (by rw [sim.Ao]; exact r) repL_nil))
    rw [sim.Wo] at fr2
    exact p σ _ ad (Step.sim (fr.trans' fr2) (sim.trans sim2)) ok2
  · cases h4
/-- x[k] = e -/
def sSetI (i : Nat) (fi fa : Ef) : Sf := fun E => (fa E).bind fun r => (getO i r.2).bind fun _ => (fi r.2).bind fun s => (getO i s.2).bind fun xs => match s.1 with
  | .int k => (ixN xs.length k).map fun j => .nx (s.2.set i (B.o (.lst (xs.set j r.1))))
  | _ => none
theorem ds_setI {i : Nat} {fi : Ef} (hx : PE X x (tVar i)) (hk : PE X b (tD X.K io fi)) (he : PE X e (tD X.K io fa)) (h : PE X x (tVar i) → PE X b (tD X.K io fi) → PE X e (tD X.K io fa) → PS X st (tAsg (tD X.K io fa) (gSub (tVar i) (tD X.K io fi) rSetL))) : PS X st (sD X.K io (sSetI i fi fa)) := (h hx hk he).imp fun Dn σ H w => by
  obtain ⟨Γ, ad, E, o, ok, he, p⟩ := w
  obtain ⟨⟨d, E1⟩, h1, h2⟩ := Option.bind_eq_some_iff.mp he
  obtain ⟨xs0, h3, h4⟩ := Option.bind_eq_some_iff.mp h2
  obtain ⟨⟨k, E2⟩, h5, h6⟩ := Option.bind_eq_some_iff.mp h4
  obtain ⟨xs, h7, h8⟩ := Option.bind_eq_some_iff.mp h6
  cases k with
  | int k =>
    obtain ⟨j, hj, e1⟩ := Option.map_eq_some_iff.mp h8
    subst e1
    refine ⟨Γ, ad, E, d, E1, ok, h1, fun v H1 fr ok1 sim r => ?_⟩
    refine ⟨_, (ok1.getO h3).1, Γ, ad, E1, .int k, E2, ok1, h5, fun vk H2 fr2 ok2 sim2 r2 => ?_⟩
    obtain ⟨e2, vs, z1, z2, z3⟩ := ok2.getO h7
    refine ⟨_, vs, k, j, rfl, r2.int, z1, by rw [z3.length]; exact hj, ?_⟩
    have r' : RepD X.K H2 (Ao Γ io ad E1) d v := (Go.frm fr2 ok1.wa).rep d v (by rw [sim.Ao]; exact r)
    obtain ⟨ok3, fr3, sim3⟩ := ok2.put (vs := vs.set j v) (xs := xs.set j d) (getO_at h7) (by rw [List.length_set]; exact z2) (z3.set j (by rw [sim2.Ao]; exact r'))
    rw [sim2.Wo] at fr3
    have fr23 := fr2.trans' fr3
    rw [sim.Wo] at fr23
    exact p σ _ ad (Step.sim (fr.trans' fr23) ((sim.trans sim2).trans sim3)) ok3
  | _ => cases h8
/-! ### new lists of the frame's own -/
def Gm.with (Γ : Gm) (p : Addr) : Gm := { Γ with A := fun a => Γ.A a ∨ a = p }
abbrev Lf := Ev (List PyData)
def lD (K : PySem.W.Frag) (io : List Nat) (f : Lf) : TE := fun σ H Q => ∃ Γ ad E ds E', EOk K Γ io ad σ H E ∧ f E = some (ds, E') ∧ ∀ p vs H', Frm (Wo Γ io ad E) H H' → H p = none → H' p = some (.lst vs) → vs.length ≤ sizeLine →
  EOk K (Γ.with p) io ad σ H' E' → RepL K H' (Ao (Γ.with p) io ad E') ds vs → Sim E E' → Q (.ref p) H'
theorem EOk.with {Γ : Gm} {ad : Nat → Addr} {σ : L2.St} {H : Hp} {E : Env'} (ok : EOk K Γ io ad σ H E) {p : Addr} (hp : H p = none) {vs : List V} : EOk K (Γ.with p) io ad σ (upd H p (.lst vs)) E ∧ Go H (Ao Γ io ad E) (upd H p (.lst vs)) (Ao (Γ.with p) io ad E) := by
  have f : Frm F0 H (upd H p (.lst vs)) := Frm.new hp
  have g : Go H (Ao Γ io ad E) (upd H p (.lst vs)) (Ao (Γ.with p) io ad E) := ⟨fun a o h n => f.eq a o h id, fun a h => by
    rcases h with (h | h) | h
    · exact .inl (.inl h)
    · subst h; exact .inr hp
    · exact .inl (.inr h)⟩
  refine ⟨⟨ok.len, fun a h => .inl (ok.w a h), fun a h => ?_, fun a h => f.on a (ok.hk a h), fun i d h => ?_, fun i m h => ?_, ok.obi, fun i m h hi => ⟨(ok.obn i m h hi).1, fun z => ?_⟩, ok.inj⟩, g⟩
  · rcases h with h | h
    · exact f.on a (ok.oA a h)
    · subst h; rw [upd_same]; exact fun z => nomatch z
  · obtain ⟨v, h1, h2⟩ := ok.vl i d h
    exact ⟨v, h1, g.rep d v h2⟩
  · obtain ⟨h1, h2⟩ := ok.ob i m h
    refine ⟨h1, ?_⟩
    cases m with
    | lst xs => obtain ⟨ws, z, z1, z2⟩ := h2; exact ⟨ws, f.eq _ _ z id, z1, g.repL xs ws z2⟩
  · rcases z with z | z
    · exact (ok.obn i m h hi).2 z
    · have := ok.on (ad i) (.inr ⟨i, m, hi, h, rfl⟩)
      rw [z] at this
      exact this hp
theorem EOk.unwith {Γ : Gm} {ad : Nat → Addr} {σ : L2.St} {H : Hp} {E : Env'} {p : Addr} (ok : EOk K (Γ.with p) io ad σ H E) (hw : ∀ a, Γ.W a → Γ.A a) : EOk K Γ io ad σ H E := ok.less (fun _ h => .inl h) rfl hw rfl
/-- a new list as a plain thing -/
theorem ld_val (h : PE X a (lD X.K io fl)) : PE X a (tD X.K io fun E => (fl E).map fun r => (PyData.list r.1, r.2)) := h.imp fun σ H Q w => by
  obtain ⟨Γ, ad, E, d, E', ok, he, q⟩ := w
  obtain ⟨⟨ds, E1⟩, h1, h2⟩ := Option.map_eq_some_iff.mp he
  cases h2
  refine ⟨Γ, ad, E, ds, E1, ok, h1, fun p vs H' fr hp hl hz ok' r sim => ?_⟩
  have np : ¬ Ao Γ io ad E p := fun z => ok.on p z hp
  refine q _ H' fr (ok'.unwith ok.w) sim (rep_lst ⟨np, .inl hl⟩ hz ((Go.less fun a z => ?_).repL ds vs r))
  rw [sim.Ao]
  exact z.elim (fun z => .inl (.inl z)) .inr
/-- a list display -/
theorem ll_lst (h : PA X es (aD X.K io fr)) : PE X (.List es pos) (lD X.K io fun E => (fr E).bind fun r => (onlyV r.1).bind fun ds => if ds.length ≤ sizeLine then some (ds, r.2) else none) := (pe_lst h).imp fun σ H Q w => by
  obtain ⟨Γ, ad, E, ds, E', ok, he, q⟩ := w
  obtain ⟨⟨gs, E1⟩, h1, h2⟩ := Option.bind_eq_some_iff.mp he
  obtain ⟨ds', h3, h4⟩ := Option.bind_eq_some_iff.mp h2
  split at h4
  · rename_i hl
    cases h4
    refine ⟨Γ, ad, E, gs, E1, ok, h1, fun vs H1 fr1 ok1 sim1 r1 => ?_⟩
    have r := RepG.repL (onlyV_map h3) r1
    refine ⟨by rw [r.length]; exact hl, fun p hp => ?_⟩
    obtain ⟨ok2, g⟩ := ok1.with hp (vs := vs)
    exact q p vs _ (fr1.trans' (Frm.new hp).of0) (frm_none fr1 hp) upd_same (by rw [r.length]; exact hl) ok2 (g.repL _ _ (by rw [sim1.Ao]; exact r)) sim1
  · cases h4
/-- list(x), list + list -/
theorem ll_list {x : Str} {p : Pos} (hg : Gl X x) (hm : X.mg x = none) (hv : bootBuiltins x = some (.type "list")) (ha : PA X (e :: es) (aD X.K io fr)) (hn : x ≠ "__name__" := by decide) (hdb : (x == ("__debug__" : Str)) = false := by decide)
    (he : starEach (e :: es) X.env = (false, eval e X.env) :: starEach es X.env := by rfl) (hpl : (backTo pos (starEach es X.env)).any (·.1) = false := by rfl) :
    PE X (.Call (.Name x p) (e :: es) [] pos) (lD X.K io fun E => (fr E).bind fun r => (resAll r.2 r.1).bind fun ds => match ds with | [.list xs] => some (xs, r.2) | [.tuple xs] => some (xs, r.2) | _ => none) :=
  (pe_callTy call_list_of hg hm hv ha hn hdb he hpl).imp fun σ H Q w => by
    obtain ⟨Γ, ad, E, ds, E', ok, he, q⟩ := w
    obtain ⟨⟨gs, E1⟩, h1, h2⟩ := Option.bind_eq_some_iff.mp he
    obtain ⟨ds', h3, h4⟩ := Option.bind_eq_some_iff.mp h2
    refine ⟨Γ, ad, E, gs, E1, ok, h1, fun vs H1 fr1 ok1 sim1 r1 => ?_⟩
    have rs := res_rep ok1 h3 (by rw [sim1.Ao]; exact r1)
    split at h4
    · cases h4
      obtain ⟨v, e1, r⟩ := rs.one
      obtain ⟨l, ws, e2, t, hl, r'⟩ := r.lst
      subst e1 e2
      refine ⟨_, ws, rfl, .inl (.inl t), fun p hp => ?_⟩
      obtain ⟨ok2, g⟩ := ok1.with hp (vs := ws)
      exact q p ws _ (fr1.trans' (Frm.new hp).of0) (frm_none fr1 hp) upd_same hl ok2 (g.repL _ _ r') sim1
    · cases h4
      obtain ⟨v, e1, r⟩ := rs.one
      obtain ⟨l, ws, e2, t, hl, r'⟩ := r.tup
      subst e1 e2
      refine ⟨_, ws, rfl, .inr t.sq, fun p hp => ?_⟩
      obtain ⟨ok2, g⟩ := ok1.with hp (vs := ws)
      exact q p ws _ (fr1.trans' (Frm.new hp).of0) (frm_none fr1 hp) upd_same hl ok2 (g.repL _ _ r') sim1
    · cases h4
/-- name = a new list, the name's own from now on -/
def sOwn (i : Nat) (f : Lf) : Sf := fun E => (f E).bind fun r => if i < r.2.length then some (.nx (r.2.set i (B.o (.lst r.1)))) else none
theorem sD_own {fl : Lf} {i : Nat} (hi : i ∉ io) {Dn : Ends} {σ : L2.St} {H : Hp} (w : sD K io (sOwn i fl) Dn σ H) : tAsg (lD K io fl) (gName i) Dn σ H := by
  obtain ⟨Γ, ad, E, o, ok, he, p⟩ := w
  obtain ⟨⟨ds, E1⟩, h1, h2⟩ := Option.bind_eq_some_iff.mp he
  split at h2
  · rename_i hl
    cases h2
    have hl : i < E1.length := hl
    refine ⟨Γ, ad, E, ds, E1, ok, h1, fun q vs H' fr hp hq hz ok' r sim => ?_⟩
    have np : ∀ j m, E1[j]? = some (B.o m) → ad j ≠ q := fun j m z e => by
      obtain ⟨m', z'⟩ := sim.own.mp ⟨m, z⟩
      exact ok.on (ad j) ((ok.wa _ (ok.wo z'))) (by rw [e]; exact hp)
    let ad' : Nat → Addr := fun j => if j = i then q else ad j
    have adi : ad' i = q := if_pos rfl
    have adj : ∀ j, j ≠ i → ad' j = ad j := fun j h => if_neg h
    have getj : ∀ (j : Nat) (m : M), j ≠ i → (E1.set i (B.o (.lst ds)))[j]? = some (B.o m) → E1[j]? = some (B.o m) := fun j m n z => by rw [List.getElem?_set_ne (Ne.symm n)] at z; exact z
    have subA : ∀ a, Ao Γ io ad' (E1.set i (B.o (.lst ds))) a → Ao (Γ.with q) io ad E1 a := fun a h => by
      rcases h with h | ⟨j, m, h1, h2, h3⟩
      · exact .inl (.inl h)
      · by_cases e : j = i
        · subst e; rw [adi] at h3; exact .inl (.inr h3)
        · rw [adj j e] at h3; exact .inr ⟨j, m, h1, getj j m e h2, h3⟩
    have g : Go H' (Ao (Γ.with q) io ad E1) H' (Ao Γ io ad' (E1.set i (B.o (.lst ds)))) := Go.less subA
    refine p _ H' ad' ⟨fr, fun a h => ?_, fun j hj => adj j fun e => hi (e ▸ hj)⟩ ⟨by rw [List.length_set, List.length_set]; exact ok'.len, ok.w, fun a h => ok'.oA a (.inl h), ok'.hk, fun j d z => ?_, fun j m z => ?_, fun j m z hj => ?_, fun j m z hj => ?_, fun j k m m' z1 z2 e => ?_⟩
    · obtain ⟨j, m, h1, h2, h3⟩ := h
      by_cases e : j = i
      · subst e; rw [adi] at h3; rw [h3]; exact .inr hp
      · rw [adj j e] at h3
        obtain ⟨m', z'⟩ := sim.own.mp ⟨m, getj j m e h2⟩
        exact .inl ⟨j, m', h1, z', h3⟩
    · have e : j ≠ i := fun e => by subst e; rw [List.getElem?_set_self hl] at z; cases z
      rw [List.getElem?_set_ne (Ne.symm e)] at z
      obtain ⟨v, q1, q2⟩ := ok'.vl j d z
      exact ⟨v, by rw [List.getElem?_set_ne (Ne.symm e)]; exact q1, g.rep d v q2⟩
    · by_cases e : j = i
      · subst e
        rw [List.getElem?_set_self hl] at z
        cases z
        exact ⟨by rw [adi, List.getElem?_set_self (by rw [ok'.len]; exact hl)], vs, by rw [adi]; exact hq, hz, g.repL ds vs r⟩
      · have z' := getj j m e z
        obtain ⟨q1, q2⟩ := ok'.ob j m z'
        refine ⟨by rw [adj j e, List.getElem?_set_ne (Ne.symm e)]; exact q1, ?_⟩
        rw [adj j e]
        cases m with
        | lst xs => obtain ⟨ws, y0, y1, y2⟩ := q2; exact ⟨ws, y0, y1, g.repL xs ws y2⟩
    · have e : j ≠ i := fun e => hi (e ▸ hj)
      rw [adj j e]
      exact ok'.obi j m (getj j m e z) hj
    · by_cases e : j = i
      · subst e
        rw [adi]
        refine ⟨?_, fun z => ?_⟩
        · cases qh : Γ.H q with
          | none => rfl
          | some o => exact absurd hp (ok.hk q (by rw [qh]; exact fun z => nomatch z))
        · exact ok.oA q z hp
      · rw [adj j e]
        obtain ⟨q1, q2⟩ := ok'.obn j m (getj j m e z) hj
        exact ⟨q1, fun z => q2 (.inl z)⟩
    · by_cases ej : j = i
      · by_cases ek : k = i
        · rw [ej, ek]
        · rw [ej, adi, adj k ek] at e
          exact absurd e.symm (np k m' (getj k m' ek z2))
      · by_cases ek : k = i
        · rw [ek, adi, adj j ej] at e
          exact absurd e (np j m (getj j m ej z1))
        · rw [adj j ej, adj k ek] at e
          exact ok'.inj j k m m' (getj j m ej z1) (getj k m' ek z2) e
  · cases h2
theorem ds_own {fl : Lf} {i : Nat} (hi : i ∉ io) (he : PE X a (lD X.K io fl)) (h : PE X a (lD X.K io fl) → PS X st (tAsg (lD X.K io fl) (gName i))) : PS X st (sD X.K io (sOwn i fl)) := (h he).imp fun Dn σ H w => sD_own hi w
end
end DL

namespace DL
open PySem PySem.Spec PyProof.Rows L2

/-! ### what is walked -/
/-- what an iterator gives, one after another, wherever the heap has gone on -/
structure Its' (K : PySem.W.Frag) (H : Hp) (A : Addr → Prop) (ds : List PyData) (G : Hp → Prop) (Y : Nat → Hp → V → Hp → Prop) : Prop where
  len : ds.length ≤ sizeLine
  at_ : ∀ H2 A2, Go H A H2 A2 → (∀ a, A2 a → H2 a ≠ none) → G H2 ∧ ∀ i x H3 d, ds[i]? = some d → Y i H2 x H3 → Frm F0 H2 H3 ∧ RepD K H3 A2 d x
def iD (K : PySem.W.Frag) (io : List Nat) (f : Lf) : TI := fun σ H R => ∃ Γ ad E ds E', EOk K Γ io ad σ H E ∧ f E = some (ds, E') ∧
  ∀ J n G Y H1, Frm (Wo Γ io ad E) H H1 → EOk K Γ io ad σ H1 E' → Sim E E' → Walk J n G Y → n = ds.length → Its' K H1 (Ao Γ io ad E') ds G Y → R J H1
theorem _root_.L2.PI.imp {X : Cx} {tg e : Expr} {t t' : TI} (h : PI X tg e t) (k : ∀ σ H R, t' σ H R → t σ H R) : PI X tg e t' := ⟨fun pins s σ H R I w => h.run pins s σ H R I (k σ H R w)⟩
section
variable {X : Cx} {K : PySem.W.Frag} {io : List Nat} {a b c e x tg elt : Expr} {es : List Expr} {fa fb fc : Ef} {fr : Af} {ga gb : Ev Bool} {pos : Pos} {f g h : Sf} {st : Stmt} {sts : List Stmt}
def itL : PyData → Option (List PyData)
  | .list xs => some xs
  | _ => none
def itT : PyData → Option (List PyData)
  | .tuple xs => some xs
  | _ => none
def itS : PyData → Option (List PyData)
  | .str z => some (z.cps.toList.map fun c => .str ⟨#[c]⟩)
  | _ => none
theorem di_list (ha : PE X a (tD X.K io fa)) : PI X tg a (iD X.K io (f1 itL fa)) := (pi_list ha).imp fun σ H R w => by
  obtain ⟨Γ, ad, E, ds, E', ok, he, q⟩ := w
  obtain ⟨⟨d, E1⟩, h1, h2⟩ := Option.bind_eq_some_iff.mp he
  obtain ⟨z, h3, h4⟩ := Option.map_eq_some_iff.mp h2
  cases h4
  refine ⟨Γ, ad, E, d, E1, ok, h1, fun v H' fr ok' sim r => ?_⟩
  cases d with
  | list xs =>
    cases h3
    obtain ⟨p, vs, e, t, hz, r'⟩ := r.lst
    subst e
    refine ⟨p, rfl, ⟨vs, t.sq⟩, q _ _ _ _ H' fr ok' sim walk_list r'.length ⟨by rw [← r'.length]; exact hz, fun H2 A2 g hA => ?_⟩⟩
    rw [sim.Ao] at g
    refine ⟨(g.lst t).sq, fun i x H3 d hd y => ?_⟩
    obtain ⟨e, y⟩ := y
    subst e
    obtain ⟨v, h1, h2⟩ := (g.repL _ _ r').get hd
    rw [y] at h1
    cases h1
    exact ⟨Frm.refl, h2⟩
  | _ => cases h3
theorem di_tup (ha : PE X a (tD X.K io fa)) : PI X tg a (iD X.K io (f1 itT fa)) := (pi_tup ha).imp fun σ H R w => by
  obtain ⟨Γ, ad, E, ds, E', ok, he, q⟩ := w
  obtain ⟨⟨d, E1⟩, h1, h2⟩ := Option.bind_eq_some_iff.mp he
  obtain ⟨z, h3, h4⟩ := Option.map_eq_some_iff.mp h2
  cases h4
  refine ⟨Γ, ad, E, d, E1, ok, h1, fun v H' fr ok' sim r => ?_⟩
  cases d with
  | tuple xs =>
    cases h3
    obtain ⟨p, vs, e, t, hz, r'⟩ := r.tup
    subst e
    refine ⟨p, rfl, ⟨vs, t.sq⟩, q _ _ _ _ H' fr ok' sim walk_tup r'.length ⟨by rw [← r'.length]; exact hz, fun H2 A2 g hA => ?_⟩⟩
    rw [sim.Ao] at g
    refine ⟨(g.tup t).sq, fun i x H3 d hd y => ?_⟩
    obtain ⟨e, y⟩ := y
    subst e
    obtain ⟨v, h1, h2⟩ := (g.repL _ _ r').get hd
    rw [y] at h1
    cases h1
    exact ⟨Frm.refl, h2⟩
  | _ => cases h3
theorem di_str (ha : PE X a (tD X.K io fa)) : PI X tg a (iD X.K io (f1 itS fa)) := (pi_str ha).imp fun σ H R w => by
  obtain ⟨Γ, ad, E, ds, E', ok, he, q⟩ := w
  obtain ⟨⟨d, E1⟩, h1, h2⟩ := Option.bind_eq_some_iff.mp he
  obtain ⟨z, h3, h4⟩ := Option.map_eq_some_iff.mp h2
  cases h4
  refine ⟨Γ, ad, E, d, E1, ok, h1, fun v H' fr ok' sim r => ?_⟩
  cases d with
  | str z =>
    cases h3
    obtain ⟨e, hl⟩ := r.str
    subst e
    have lz : (z.cps.toList.map fun c => PyData.str ⟨#[c]⟩).length = z.cps.size := by rw [List.length_map, Array.length_toList]
    refine ⟨z, rfl, q _ _ _ _ H' fr ok' sim walk_str lz.symm ⟨by rw [lz]; exact hl, fun H2 A2 g hA => ⟨trivial, fun i x H3 d hd y => ?_⟩⟩⟩
    obtain ⟨e, c, hc, y⟩ := y
    subst e y
    rw [List.getElem?_map] at hd
    obtain ⟨c', h1, h2⟩ := Option.map_eq_some_iff.mp hd
    rw [Array.getElem?_toList, hc] at h1
    cases h1
    subst h2
    exact ⟨Frm.refl, rep_str (by show 1 ≤ sizeLine; decide)⟩
  | _ => cases h3
/-- range(n), range(a, b) -/
def rngD (lo : Int) (n : Nat) : List PyData := (List.range n).map fun i => .int (lo + (i : Nat))
def itR (lo hi : Int) : Option (List PyData) := if -(2 ^ 62) ≤ lo ∧ lo < 2 ^ 62 ∧ -(2 ^ 62) ≤ hi ∧ hi < 2 ^ 62 ∧ (hi - lo).toNat ≤ sizeLine then some (rngD lo (hi - lo).toNat) else none
def itR1 : List PyData → Option (List PyData)
  | [.int n] => itR 0 n
  | _ => none
def itR2 : List PyData → Option (List PyData)
  | [.int m, .int n] => itR m n
  | _ => none
theorem its_range {K : PySem.W.Frag} {H : Hp} {A : Addr → Prop} {lo : Int} {n : Nat} (hn : n ≤ sizeLine) : Its' K H A (rngD lo n) (fun _ => True) (YFn fun i => .int (lo + i)) := by
  refine ⟨by unfold rngD; rw [List.length_map, List.length_range]; exact hn, fun H2 A2 g hA => ⟨trivial, fun i x H3 d hd y => ?_⟩⟩
  obtain ⟨e, y⟩ := y
  subst e y
  unfold rngD at hd
  rw [List.getElem?_map] at hd
  obtain ⟨j, h1, h2⟩ := Option.map_eq_some_iff.mp hd
  have hj : j = i := by
    obtain ⟨hl, e⟩ := List.getElem?_eq_some_iff.mp h1
    rw [List.getElem_range] at e
    exact e.symm
  subst hj h2
  exact ⟨Frm.refl, rep_int⟩
theorem len_rng (lo : Int) (n : Nat) : (rngD lo n).length = n := by unfold rngD; rw [List.length_map, List.length_range]
theorem di_rng1 {p : Pos} (hg : Gl X "range") (hm : X.mg "range" = none) (ha : PA X [a] (aD X.K io fr)) (hs : starEach [a] X.env = [(false, eval a X.env)] := by rfl) : PI X tg (.Call (.Name "range" p) [a] [] pos) (iD X.K io (fB itR1 fr)) :=
  (pi_range1 hg hm ha hs).imp fun σ H R w => by
    obtain ⟨Γ, ad, E, ds, E', ok, he, q⟩ := w
    obtain ⟨⟨gs, E1⟩, h1, h2⟩ := Option.bind_eq_some_iff.mp he
    obtain ⟨ds', h3, h4⟩ := Option.bind_eq_some_iff.mp h2
    obtain ⟨z, h5, h6⟩ := Option.map_eq_some_iff.mp h4
    cases h6
    refine ⟨Γ, ad, E, gs, E1, ok, h1, fun vs H' fr ok' sim r => ?_⟩
    have rs := res_rep ok' h3 (by rw [sim.Ao]; exact r)
    unfold itR1 at h5
    split at h5
    · rename_i n
      unfold itR at h5
      split at h5
      · rename_i hb
        cases h5
        obtain ⟨v, e1, r⟩ := rs.one
        cases r.int
        subst e1
        have e0 : (n - 0).toNat = n.toNat := by omega
        rw [e0] at q hb
        exact ⟨n, rfl, hb.2.2.1, hb.2.2.2.1, q _ _ _ _ H' fr ok' sim walk_range (len_rng _ _).symm (its_range hb.2.2.2.2)⟩
      · cases h5
    · cases h5
theorem di_rng2 {p : Pos} (hg : Gl X "range") (hm : X.mg "range" = none) (ha : PA X [a, b] (aD X.K io fr)) (hs : starEach [a, b] X.env = [(false, eval a X.env), (false, eval b X.env)] := by rfl) (hs2 : starEach [b] X.env = [(false, eval b X.env)] := by rfl) :
    PI X tg (.Call (.Name "range" p) [a, b] [] pos) (iD X.K io (fB itR2 fr)) :=
  (pi_range2 hg hm ha hs hs2).imp fun σ H R w => by
    obtain ⟨Γ, ad, E, ds, E', ok, he, q⟩ := w
    obtain ⟨⟨gs, E1⟩, h1, h2⟩ := Option.bind_eq_some_iff.mp he
    obtain ⟨ds', h3, h4⟩ := Option.bind_eq_some_iff.mp h2
    obtain ⟨z, h5, h6⟩ := Option.map_eq_some_iff.mp h4
    cases h6
    refine ⟨Γ, ad, E, gs, E1, ok, h1, fun vs H' fr ok' sim r => ?_⟩
    have rs := res_rep ok' h3 (by rw [sim.Ao]; exact r)
    unfold itR2 at h5
    split at h5
    · rename_i m n
      unfold itR at h5
      split at h5
      · rename_i hb
        cases h5
        obtain ⟨v, u, e1, r, r2⟩ := rs.two
        cases r.int
        cases r2.int
        subst e1
        exact ⟨m, n, rfl, ⟨hb.1, hb.2.1, hb.2.2.1, hb.2.2.2.1⟩, q _ _ _ _ H' fr ok' sim walk_range (len_rng _ _).symm (its_range hb.2.2.2.2)⟩
      · cases h5
    · cases h5
/-! ### for -/
def forL (τ : Tf) (body : Sf) : List PyData → Env' → Option O
  | [], E => some (.nx E)
  | d :: ds, E => (τ d).bind fun as => (body (setE E as)).bind fun o => match o with
    | .nx E' => forL τ body ds E'
    | .ct E' => forL τ body ds E'
    | .bk E' => some (.nx E')
    | .rt v E' => some (.rt v E')
def sFor (fl : Lf) (τ : Tf) (body : Sf) : Sf := fun E => (fl E).bind fun r => forL τ body r.1 r.2
theorem drop_at {α : Type} {l : List α} {i : Nat} {d : α} (h : l[i]? = some d) : l.drop i = d :: l.drop (i + 1) := by
  obtain ⟨hl, e⟩ := List.getElem?_eq_some_iff.mp h
  rw [List.drop_eq_getElem_cons hl, e]
theorem sD_for {fl : Lf} {τ : Tf} (ht : TOk io τ) {Dn : Ends} {σ : L2.St} {H : Hp} (w : sD K io (sFor fl τ f) Dn σ H) : tFor (iD K io fl) (gD K τ) (sD K io f) Dn σ H := by
  obtain ⟨Γ, ad0, E0, o, ok0, he, p⟩ := w
  obtain ⟨⟨ds, E1⟩, h1, h2⟩ := Option.bind_eq_some_iff.mp he
  refine ⟨Γ, ad0, E0, ds, E1, ok0, h1, fun J n G Y H1 fr ok1 sim wk hn its => ?_⟩
  have s1 : Step Γ io ad0 E0 H ad0 E1 H1 := Step.sim fr sim
  refine for_it wk (fun i σ' H' => ∃ ad E, EOk K Γ io ad σ' H' E ∧ Step Γ io ad0 E1 H1 ad E H' ∧ forL τ f (ds.drop i) E = some o) ⟨ad0, E1, ok1, Step.sim Frm.refl (Sim.refl _), h2⟩ ?_ ?_ ?_
  · rintro i σ' H' hi ⟨ad, E, ok, s, e⟩
    exact (its.at_ H' _ (s.go ok.w) ok.on).1
  · rintro i x σ' H' H'' hi ⟨ad, E, ok, s, e⟩ y
    obtain ⟨d, hd⟩ : ∃ d, ds[i]? = some d := ⟨ds[i]'(by omega), List.getElem?_eq_getElem (by omega)⟩
    obtain ⟨fr2, r⟩ := (its.at_ H' _ (s.go ok.w) ok.on).2 i x H'' d hd y
    rw [drop_at hd] at e
    obtain ⟨as, h3, h4⟩ := Option.bind_eq_some_iff.mp e
    obtain ⟨o1, h5, h6⟩ := Option.bind_eq_some_iff.mp h4
    refine ⟨Ao Γ io ad E, d, as, r, h3, fun ws hw => ?_⟩
    have okn := ok.new fr2
    obtain ⟨ok2, sub⟩ := okn.sets (ht d as h3) hw
    have s2 : Step Γ io ad E H' ad (setE E as) H'' := ⟨fr2.of0, fun a h => .inl (sub a h), fun _ _ => rfl⟩
    have s3 := s.trans s2
    refine ⟨Γ, ad, setE E as, o1, ok2, h5, ?_⟩
    cases o1 with
    | nx E' => exact fun σ3 H3 ad3 s4 ok3 => ⟨ad3, E', ok3, s3.trans s4, h6⟩
    | ct E' => exact fun σ3 H3 ad3 s4 ok3 => ⟨ad3, E', ok3, s3.trans s4, h6⟩
    | bk E' => cases h6; exact fun σ3 H3 ad3 s4 ok3 => p σ3 H3 ad3 (s1.trans (s3.trans s4)) ok3
    | rt v E' => cases h6; exact fun u σ3 H3 ad3 s4 ok3 r3 => p u σ3 H3 ad3 (s1.trans (s3.trans s4)) ok3 r3
  · rintro σ' H' ⟨ad, E, ok, s, e⟩
    rw [hn, List.drop_length] at e
    cases e
    exact p σ' H' ad (s1.trans s) ok
theorem ds_for {fl : Lf} {τ : Tf} (ht : TOk io τ) (hp : PassesOwn (model X.prog X.w) X.A X.env X.xe) (hc : X.calm = true) (hi : PI X tg a (iD X.K io fl)) (hg : PG X tg (gD X.K τ)) (hb : PSs X sts (sD X.K io f))
    (hs : ∀ x, foldedSetIterable a X.env x = pure x := by intro _; rfl) : PS X (.For tg a sts [] pos) (sD X.K io (sFor fl τ f)) := (ps_for hp hc hi hg hb hs).imp fun Dn σ H w => sD_for ht w
/-! ### while -/
def whL (gc : Ev Bool) (body : Sf) : Nat → Env' → Option O
  | 0, _ => none
  | n + 1, E => (gc E).bind fun r => if r.1 = true then (body r.2).bind fun o => match o with
    | .nx E' => whL gc body n E'
    | .ct E' => whL gc body n E'
    | .bk E' => some (.nx E')
    | .rt v E' => some (.rt v E')
    else some (.nx r.2)
theorem ds_while {n : Nat} (hp : PassesOwn (model X.prog X.w) X.A X.env X.xe) (hc : PT X c (cD X.K io ga)) (hb : PSs X sts (sD X.K io f)) : PS X (.While c sts [] pos) (sD X.K io (whL ga f n)) := (ps_while hp hc hb).imp fun Dn σ H w => by
  obtain ⟨Γ, ad0, E0, o, ok0, he, p⟩ := w
  refine ⟨fun m σ' H' => ∃ ad E, EOk X.K Γ io ad σ' H' E ∧ Step Γ io ad0 E0 H ad E H' ∧ whL ga f m E = some o, ⟨n, ad0, E0, ok0, Step.sim Frm.refl (Sim.refl _), he⟩, ?_⟩
  rintro m σ' H' ⟨ad, E, ok, s, e⟩
  cases m with
  | zero => cases e
  | succ m =>
    obtain ⟨⟨k, E1⟩, h1, h2⟩ := Option.bind_eq_some_iff.mp e
    refine ⟨Γ, ad, E, k, E1, ok, h1, fun v H1 fr ok1 sim r => ?_⟩
    cases r
    have s1 := s.trans (Step.sim fr sim)
    cases k with
    | false =>
      cases h2
      exact p σ' H1 ad s1 ok1
    | true =>
      obtain ⟨o1, h3, h4⟩ := Option.bind_eq_some_iff.mp h2
      refine ⟨fun σ2 H2 => ∃ ad E, EOk X.K Γ io ad σ2 H2 E ∧ Step Γ io ad0 E0 H ad E H2 ∧ whL ga f m E = some o, fun σ2 H2 q => ⟨m, Nat.lt_succ_self m, q⟩, Γ, ad, E1, o1, ok1, h3, ?_⟩
      cases o1 with
      | nx E' => exact fun σ3 H3 ad3 s4 ok3 => ⟨ad3, E', ok3, s1.trans s4, h4⟩
      | ct E' => exact fun σ3 H3 ad3 s4 ok3 => ⟨ad3, E', ok3, s1.trans s4, h4⟩
      | bk E' => cases h4; exact fun σ3 H3 ad3 s4 ok3 => p σ3 H3 ad3 (s1.trans s4) ok3
      | rt v E' => cases h4; exact fun u σ3 H3 ad3 s4 ok3 r3 => p u σ3 H3 ad3 (s1.trans s4) ok3 r3
/-! ### list comprehensions -/
def wipeE (E : Env') : List Nat → Env'
  | [] => E
  | v :: vs => (wipeE E vs).set v B.u
def isOwn : Option B → Bool
  | some (B.o _) => true
  | _ => false
/-- the slots vs as they were in E, the others as in E' -/
def backE (E E' : Env') : List Nat → Env'
  | [] => E'
  | v :: vs => match E[v]? with
    | some b => (backE E E' vs).set v b
    | none => backE E E' vs
def lcL (vs : List Nat) (τ : Tf) (gt : Ev Bool) (fe : Ef) : List PyData → Env' → Option (List PyData × Env')
  | [], E => some ([], E)
  | d :: ds, E => (τ d).bind fun as => (gt (setE E as)).bind fun r => if r.1 = true then (fe r.2).bind fun s => (lcL vs τ gt fe ds (wipeE s.2 vs)).map fun t => (s.1 :: t.1, t.2)
    else lcL vs τ gt fe ds (wipeE r.2 vs)
def fLc (vs : List Nat) (fl : Lf) (τ : Tf) (gt : Ev Bool) (fe : Ef) : Lf := fun E => (fl E).bind fun r => if vs.any (fun i => isOwn r.2[i]?) then none else (lcL vs τ gt fe r.1 (wipeE r.2 vs)).map fun t => (t.1, backE r.2 t.2 vs)
def gYes : Ev Bool := fun E => some (true, E)
theorem dts_nil : PTs X [] (cD X.K io gYes) := ⟨fun pins s σ H Q I w => pts_nil.run pins s σ H Q I (by
  obtain ⟨Γ, ad, E, d, E', ok, he, q⟩ := w
  cases he
  exact q true H Frm.refl ok (Sim.refl E) rfl)⟩
theorem dts_one (h : PT X c (cD X.K io ga)) : PTs X [c] (cD X.K io ga) := pts_one h
theorem wipe_get {vs : List Nat} {E : Env'} {j : Nat} : (wipeE E vs)[j]? = if j ∈ vs then E[j]?.map fun _ => B.u else E[j]? := by
  induction vs with
  | nil => simp [wipeE]
  | cons v vs ih =>
    show ((wipeE E vs).set v B.u)[j]? = _
    rw [List.getElem?_set]
    by_cases h : v = j
    · subst h
      rw [if_pos rfl]
      have hl : (wipeE E vs).length = E.length := by
        clear ih
        induction vs with
        | nil => rfl
        | cons w ws ih => show ((wipeE E ws).set w B.u).length = _; rw [List.length_set]; exact ih
      rw [hl]
      rw [if_pos List.mem_cons_self]
      by_cases q : v < E.length
      · rw [if_pos q, List.getElem?_eq_getElem q] <;> rfl
      · rw [if_neg q, List.getElem?_eq_none (by omega)] <;> rfl
    · rw [if_neg h, ih]
      have : (j ∈ v :: vs) ↔ j ∈ vs := by simp [Ne.symm h]
      by_cases q : j ∈ vs
      · rw [if_pos q, if_pos (this.mpr q)]
      · rw [if_neg q, if_neg (fun z => q (this.mp z))]
theorem wipeE_length {vs : List Nat} {E : Env'} : (wipeE E vs).length = E.length := by
  induction vs with
  | nil => rfl
  | cons w ws ih => show ((wipeE E ws).set w B.u).length = _; rw [List.length_set]; exact ih
theorem wipeS_get {vs : List Nat} {σ : L2.St} {j : Nat} (h : j ∉ vs) : (wipe σ vs)[j]? = σ[j]? := wipe_out h
/-- the slots vs forgotten: none of them an own object's -/
theorem EOk.wipe {Γ : Gm} {ad : Nat → Addr} {σ : L2.St} {H : Hp} {E : Env'} (ok : EOk K Γ io ad σ H E) {vs : List Nat} (hv : ∀ i ∈ vs, isOwn E[i]? = false) : EOk K Γ io ad (L2.wipe σ vs) H (wipeE E vs) ∧ Ao Γ io ad (wipeE E vs) = Ao Γ io ad E ∧ Wo Γ io ad (wipeE E vs) = Wo Γ io ad E := by
  have own : ∀ (j : Nat) (m : M), (wipeE E vs)[j]? = some (B.o m) ↔ E[j]? = some (B.o m) := fun j m => by
    rw [wipe_get]
    by_cases q : j ∈ vs
    · rw [if_pos q]
      constructor
      · intro z
        cases h : E[j]? with
        | none => rw [h] at z; cases z
        | some b => rw [h] at z; cases z
      · intro z
        have := hv j q
        rw [z] at this
        cases this
    · rw [if_neg q]
  have nin : ∀ (j : Nat) (m : M), E[j]? = some (B.o m) → j ∉ vs := fun j m z q => by
    have := hv j q
    rw [z] at this
    cases this
  have eo : Own io ad (wipeE E vs) = Own io ad E := by
    funext a
    exact propext ⟨fun ⟨i, m, h1, h2, h3⟩ => ⟨i, m, h1, (own i m).mp h2, h3⟩, fun ⟨i, m, h1, h2, h3⟩ => ⟨i, m, h1, (own i m).mpr h2, h3⟩⟩
  have ea : Ao Γ io ad (wipeE E vs) = Ao Γ io ad E := by funext a; unfold DL.Ao; rw [eo]
  have ew : Wo Γ io ad (wipeE E vs) = Wo Γ io ad E := by funext a; unfold DL.Wo; rw [eo]
  refine ⟨⟨by rw [wipe_length, wipeE_length]; exact ok.len, ok.w, ok.oA, ok.hk, fun j d z => ?_, fun j m z => ?_, fun j m z => ok.obi j m ((own j m).mp z), fun j m z => ok.obn j m ((own j m).mp z), fun j k m m' z1 z2 => ok.inj j k m m' ((own j m).mp z1) ((own k m').mp z2)⟩, ea, ew⟩
  · rw [wipe_get] at z
    by_cases q : j ∈ vs
    · rw [if_pos q] at z
      cases h : E[j]? with
      | none => rw [h] at z; cases z
      | some b => rw [h] at z; cases z
    · rw [if_neg q] at z
      obtain ⟨v, h1, h2⟩ := ok.vl j d z
      exact ⟨v, by rw [wipe_out q]; exact h1, by rw [ea]; exact h2⟩
  · have z' := (own j m).mp z
    obtain ⟨h1, h2⟩ := ok.ob j m z'
    exact ⟨by rw [wipe_out (nin j m z')]; exact h1, by rw [ea]; exact h2⟩
end
end DL

namespace DL
open PySem PySem.Spec PyProof.Rows L2

/-- the slots of a target are among vs -/
def TIn (vs : List Nat) (τ : Tf) : Prop := ∀ d as, τ d = some as → ∀ p ∈ as, p.1 ∈ vs
def TsIn (vs : List Nat) (τ : List PyData → Option (List (Nat × PyData))) : Prop := ∀ d as, τ d = some as → ∀ p ∈ as, p.1 ∈ vs
theorem tin_n {vs : List Nat} {i : Nat} (h : i ∈ vs) : TIn vs (τN i) := fun d as e p hp => by cases e; cases List.mem_singleton.mp hp; exact h
theorem tin_nil {vs : List Nat} : TsIn vs τNil := fun d as e p hp => by
  cases d with
  | nil => cases e; cases hp
  | cons _ _ => cases e
theorem tin_cons {vs : List Nat} {t : Tf} {u : List PyData → Option (List (Nat × PyData))} (h1 : TIn vs t) (h2 : TsIn vs u) : TsIn vs (τCons t u) := fun d as e p hp => by
  cases d with
  | nil => cases e
  | cons d ds =>
    obtain ⟨x, h3, h4⟩ := Option.bind_eq_some_iff.mp e
    obtain ⟨y, h5, h6⟩ := Option.map_eq_some_iff.mp h4
    subst h6
    rcases List.mem_append.mp hp with h | h
    · exact h1 d x h3 p h
    · exact h2 ds y h5 p h
theorem tin_t {vs : List Nat} {u : List PyData → Option (List (Nat × PyData))} {n : Nat} (h2 : TsIn vs u) : TIn vs (τT n u) := fun d as e p hp => by
  unfold τT at e
  split at e
  · split at e
    · exact h2 _ as e p hp
    · cases e
  · cases e
theorem wipe_set {vs : List Nat} {σ : L2.St} {i : Nat} {x : Option V} (h : i ∈ vs) : wipe (σ.set i x) vs = wipe σ vs := by
  induction vs with
  | nil => cases h
  | cons v vs ih =>
    show (wipe (σ.set i x) vs).set v none = (wipe σ vs).set v none
    by_cases q : i ∈ vs
    · rw [ih q]
    · have e : i = v := by
        rcases List.mem_cons.mp h with h | h
        · exact h
        · exact absurd h q
      subst e
      have : ∀ (ws : List Nat) (τ : L2.St), (wipe (τ.set i x) ws).set i none = (wipe τ ws).set i none := by
        intro ws
        induction ws with
        | nil => intro τ; show (τ.set i x).set i none = τ.set i none; rw [List.set_set]
        | cons w ws ih =>
          intro τ
          show ((wipe (τ.set i x) ws).set w none).set i none = ((wipe τ ws).set w none).set i none
          by_cases e : w = i
          · subst e; rw [List.set_set, List.set_set]; exact ih τ
          · rw [List.set_comm _ _ e, List.set_comm _ _ e, ih τ]
      exact this vs σ
theorem wipe_setS {vs : List Nat} : ∀ {ws : List (Nat × V)} {σ : L2.St}, (∀ p ∈ ws, p.1 ∈ vs) → wipe (setS σ ws) vs = wipe σ vs
  | [], _, _ => rfl
  | p :: ws, σ, h => by
    show wipe (setS (σ.set p.1 (some p.2)) ws) vs = _
    rw [wipe_setS fun q hq => h q (List.mem_cons_of_mem _ hq), wipe_set (h p List.mem_cons_self)]
theorem wipe_wipe (vs : List Nat) (σ : L2.St) : wipe (wipe σ vs) vs = wipe σ vs := by
  have : ∀ (us ws : List Nat) (σ : L2.St), (∀ u ∈ us, u ∈ ws) → wipe (wipe σ us) ws = wipe σ ws := by
    intro us
    induction us with
    | nil => intro ws σ _; rfl
    | cons u us ih =>
      intro ws σ h
      show wipe ((wipe σ us).set u none) ws = _
      rw [wipe_set (h u List.mem_cons_self)]
      exact ih ws σ fun v hv => h v (List.mem_cons_of_mem _ hv)
  exact this vs vs σ fun _ h => h
theorem setR_slots {K : PySem.W.Frag} {H : Hp} {A : Addr → Prop} {vs : List Nat} : ∀ {as : List (Nat × PyData)} {ws : List (Nat × V)}, SetR K H A as ws → (∀ p ∈ as, p.1 ∈ vs) → ∀ p ∈ ws, p.1 ∈ vs
  | [], ws, h, _, p, hp => by unfold SetR at h; subst h; cases hp
  | a :: as, ws, h, ha, p, hp => by
    obtain ⟨v, r, e, _, h2⟩ := h
    subst e
    rcases List.mem_cons.mp hp with e | hp
    · subst e; exact ha a List.mem_cons_self
    · exact setR_slots h2 (fun q hq => ha q (List.mem_cons_of_mem _ hq)) p hp
theorem setE_out {vs : List Nat} {j : Nat} (hj : j ∉ vs) : ∀ {as : List (Nat × PyData)} {E : Env'}, (∀ p ∈ as, p.1 ∈ vs) → (setE E as)[j]? = E[j]?
  | [], _, _ => rfl
  | a :: as, E, ha => by
    show (setE (E.set a.1 (B.v a.2)) as)[j]? = _
    rw [setE_out hj fun q hq => ha q (List.mem_cons_of_mem _ hq), List.getElem?_set_ne (show a.1 ≠ j from fun e => hj (by rw [← e]; exact ha a List.mem_cons_self))]
theorem setE_length : ∀ {as : List (Nat × PyData)} {E : Env'}, (setE E as).length = E.length
  | [], _ => rfl
  | a :: as, E => by
    show (setE (E.set a.1 (B.v a.2)) as).length = _
    rw [setE_length, List.length_set]
theorem setE_own {j : Nat} : ∀ {as : List (Nat × PyData)} {E : Env'}, isOwn E[j]? = false → isOwn (setE E as)[j]? = false
  | [], _, h => h
  | a :: as, E, h => by
    show isOwn (setE (E.set a.1 (B.v a.2)) as)[j]? = false
    refine setE_own ?_
    rw [List.getElem?_set]
    by_cases e : a.1 = j
    · rw [if_pos e]
      by_cases q : a.1 < E.length
      · rw [if_pos q] <;> rfl
      · rw [if_neg q] <;> rfl
    · rw [if_neg e]; exact h
theorem Sim.isOwn {E E' : Env'} (s : Sim E E') {j : Nat} (h : DL.isOwn E[j]? = false) : DL.isOwn E'[j]? = false := by
  rcases s.2 j with ⟨m, m', h1, h2⟩ | ⟨h1, h2⟩
  · rw [h1] at h; cases h
  · rw [h2]; exact h
section
variable {X : Cx} {K : PySem.W.Frag} {io : List Nat} {a b c e x tg elt iter : Expr} {ifs es : List Expr} {fa fb fe : Ef} {fr : Af} {ga gt : Ev Bool} {pos : Pos} {f g h : Sf} {st : Stmt} {sts : List Stmt}
/-- what is another's changes -/
theorem EOk.putA {Γ : Gm} {ad : Nat → Addr} {σ : L2.St} {H : Hp} {E : Env'} (ok : EOk K Γ io ad σ H E) {p : Addr} (hA : Γ.A p) (hW : ¬ Γ.W p) {o : HO} : EOk K Γ io ad σ (upd H p o) E ∧ Go H (Ao Γ io ad E) (upd H p o) (Ao Γ io ad E) := by
  have f : Frm (fun a => a = p) H (upd H p o) := Frm.put rfl
  have g : Go H (Ao Γ io ad E) (upd H p o) (Ao Γ io ad E) := Go.frm f fun a h => by subst h; exact .inl hA
  have ne : ∀ (i : Nat) (m : M), E[i]? = some (B.o m) → ad i ≠ p := fun i m h e => by
    by_cases q : i ∈ io
    · exact hW (e ▸ ok.obi i m h q)
    · exact (ok.obn i m h q).2 (e ▸ hA)
  refine ⟨⟨ok.len, ok.w, fun a h => f.on a (ok.oA a h), fun a h => f.on a (ok.hk a h), fun i d h => ?_, fun i m h => ?_, ok.obi, ok.obn, ok.inj⟩, g⟩
  · obtain ⟨v, h1, h2⟩ := ok.vl i d h
    exact ⟨v, h1, g.rep d v h2⟩
  · obtain ⟨h1, h2⟩ := ok.ob i m h
    refine ⟨h1, ?_⟩
    cases m with
    | lst xs => obtain ⟨ws, z, z1, z2⟩ := h2; exact ⟨ws, by rw [upd_ne (ne i _ h)]; exact z, z1, g.repL xs ws z2⟩
theorem backE_get {E E' : Env'} (hl : E'.length = E.length) : ∀ {vs : List Nat} {j : Nat}, (backE E E' vs)[j]? = if j ∈ vs then E[j]? else E'[j]? := by
  intro vs
  induction vs with
  | nil => intro j; simp [backE]
  | cons v vs ih =>
    intro j
    have len : ∀ us : List Nat, (backE E E' us).length = E.length := by
      intro us
      induction us with
      | nil => exact hl
      | cons u us ih2 =>
        unfold backE
        split
        · rw [List.length_set]; exact ih2
        · exact ih2
    have mem : (j ∈ v :: vs) ↔ (j = v ∨ j ∈ vs) := by simp
    unfold backE
    split
    · rename_i b hb
      rw [List.getElem?_set, len vs]
      by_cases e : v = j
      · subst e
        have hv : v < E.length := (List.getElem?_eq_some_iff.mp hb).1
        rw [if_pos rfl, if_pos hv, if_pos List.mem_cons_self, hb]
      · rw [if_neg e, ih]
        by_cases q : j ∈ vs
        · rw [if_pos q, if_pos (mem.mpr (.inr q))]
        · rw [if_neg q, if_neg fun z => (mem.mp z).elim (fun z => e z.symm) q]
    · rename_i hb
      rw [ih]
      by_cases q : j ∈ vs
      · rw [if_pos q, if_pos (mem.mpr (.inr q))]
      · by_cases e : j = v
        · subst e
          rw [if_neg q, if_pos List.mem_cons_self, hb]
          exact List.getElem?_eq_none (by rw [hl]; exact List.getElem?_eq_none_iff.mp hb)
        · rw [if_neg q, if_neg fun z => (mem.mp z).elim e q]
theorem backE_length {E E' : Env'} (hl : E'.length = E.length) : ∀ (us : List Nat), (backE E E' us).length = E.length := by
  intro us
  induction us with
  | nil => exact hl
  | cons u us ih2 =>
    unfold backE
    split
    · rw [List.length_set]; exact ih2
    · exact ih2
theorem lc_sound {fl : Lf} {τ : Tf} {vs : List Nat} (ht : TOk io τ) (hv : TIn vs τ) {σ : L2.St} {H : Hp} {Q : VK} (w : lD K io (fLc vs fl τ gt fe) σ H Q) : tLc (iD K io fl) (gD K τ) (cD K io gt) (tD K io fe) vs σ H Q := by
  obtain ⟨Γ, ad, E0, ys, E', ok0, he, q⟩ := w
  obtain ⟨⟨ds, E1⟩, h1, h2⟩ := Option.bind_eq_some_iff.mp he
  split at h2
  · cases h2
  rename_i hno
  obtain ⟨⟨ys', Et⟩, h3, h4⟩ := Option.map_eq_some_iff.mp h2
  cases h4
  have hno' : ∀ i ∈ vs, isOwn E1[i]? = false := fun i hi => by
    cases z : isOwn E1[i]? with
    | false => rfl
    | true => exact absurd (List.any_eq_true.mpr ⟨i, hi, z⟩) hno
  refine ⟨Γ, ad, E0, ds, E1, ok0, h1, fun J n G Y H1 fr1 ok1 sim1 wk hn its D hD => ?_⟩
  have nW : ¬ Γ.W D := fun z => ok1.oA D (ok1.w D z) hD
  have nA1 : ¬ Ao Γ io ad E1 D := fun z => ok1.on D z hD
  obtain ⟨okD, gD0⟩ := ok1.with hD (vs := [])
  obtain ⟨okw, eAw, eWw⟩ := okD.wipe hno'
  have simW : ∀ {Ew : Env'}, Sim (wipeE E1 vs) Ew → Ao (Γ.with D) io ad Ew = Ao (Γ.with D) io ad E1 := fun s => by rw [s.Ao, eAw]
  have simWo : ∀ {Ew : Env'}, Sim (wipeE E1 vs) Ew → Wo (Γ.with D) io ad Ew = Wo Γ io ad E1 := fun s => by rw [s.Wo, eWw]; rfl
  have goD : ∀ {H'}, Frm (Wo Γ io ad E1) H1 H' → Go H1 (Ao Γ io ad E1) H' (Ao (Γ.with D) io ad E1) := fun f => ⟨fun a o h n => f.eq a o h fun z => n (ok1.wa a z), fun a h => by
    rcases h with (h | h) | h
    · exact .inl (.inl h)
    · subst h; exact .inr hD
    · exact .inl (.inr h)⟩
  refine lc_it wk (fun i H' => ∃ Ew accV accD rest, EOk K (Γ.with D) io ad (wipe σ vs) H' Ew ∧ Sim (wipeE E1 vs) Ew ∧ Frm (Wo Γ io ad E1) H1 H' ∧ H' D = some (.lst accV) ∧ RepL K H' (Ao (Γ.with D) io ad E1) accD accV ∧ accV.length ≤ i ∧
      lcL vs τ gt fe (ds.drop i) Ew = some (rest, Et) ∧ accD ++ rest = ys') ⟨_, [], [], ys', okw, Sim.refl _, (Frm.new hD).of0, upd_same, repL_nil, Nat.le_refl _, h3, rfl⟩ ?_ ?_ ?_
  · rintro i H' hi ⟨Ew, accV, accD, rest, ok, sim, fr, hd, r, hl, e1, e2⟩
    refine (its.at_ H' _ (by have g := goD fr; rw [← simW sim] at g; exact g) ok.on).1
  · rintro i x H' H'' hi ⟨Ew, accV, accD, rest, ok, sim, fr, hd, r, hl, e1, e2⟩ y
    obtain ⟨d, hdd⟩ : ∃ d, ds[i]? = some d := ⟨ds[i]'(by omega), List.getElem?_eq_getElem (by omega)⟩
    obtain ⟨fr2, rd'⟩ := (its.at_ H' _ (by have g := goD fr; rw [← simW sim] at g; exact g) ok.on).2 i x H'' d hdd y
    rw [drop_at hdd] at e1
    obtain ⟨as, h5, h6⟩ := Option.bind_eq_some_iff.mp e1
    obtain ⟨⟨k, E2⟩, h7, h8⟩ := Option.bind_eq_some_iff.mp h6
    refine ⟨_, d, as, rd', h5, fun ws hw => ?_⟩
    have inv := hv d as h5
    have ewp : wipe (setS (wipe σ vs) ws) vs = wipe σ vs := by rw [wipe_setS (setR_slots hw inv), wipe_wipe]
    refine ⟨ewp, ?_⟩
    obtain ⟨ok2, sub⟩ := (ok.new fr2).sets (ht d as h5) hw
    have uW : ∀ j ∈ vs, isOwn Ew[j]? = false := fun j hj => sim.isOwn (by
      rw [wipe_get, if_pos hj]
      cases E1[j]? <;> rfl)
    have uS : ∀ j ∈ vs, isOwn (setE Ew as)[j]? = false := fun j hj => setE_own (uW j hj)
    have oS : Own io ad (setE Ew as) = Own io ad Ew := by
      funext a
      refine propext ⟨sub a, fun ⟨j, m, q1, q2, q3⟩ => ⟨j, m, q1, ?_, q3⟩⟩
      have : j ∉ vs := fun z => by have := uW j z; rw [q2] at this; cases this
      rw [setE_out this inv]
      exact q2
    have aS : Ao (Γ.with D) io ad (setE Ew as) = Ao (Γ.with D) io ad E1 := by
      rw [← simW sim]; funext a; unfold Ao; rw [oS]
    have wS : Wo (Γ.with D) io ad (setE Ew as) = Wo Γ io ad E1 := by
      rw [← simWo sim]; funext a; unfold Wo; rw [oS]
    have nWo : ∀ {E3 : Env'}, Wo (Γ.with D) io ad E3 = Wo Γ io ad E1 → ¬ Wo (Γ.with D) io ad E3 D := fun e z => by
      rw [e] at z; exact nA1 (ok1.wa D z)
    -- the new state behind a turn
    have next : ∀ {E3 : Env'}, Sim (setE Ew as) E3 → Sim (wipeE E1 vs) (wipeE E3 vs) := fun {E3} s3 => by
      refine ⟨?_, fun j => ?_⟩
      · rw [wipeE_length, s3.1, setE_length, sim.1]
      · by_cases hj : j ∈ vs
        · refine .inr ⟨fun m z => ?_, ?_⟩
          · rw [wipe_get, if_pos hj] at z
            cases hz : E1[j]? with
            | none => rw [hz] at z; cases z
            | some b => rw [hz] at z; cases z
          · rw [wipe_get, wipe_get, if_pos hj, if_pos hj]
            have hl3 : E3.length = E1.length := by rw [s3.1, setE_length, sim.1, wipeE_length]
            by_cases q : j < E1.length
            · rw [List.getElem?_eq_getElem q, List.getElem?_eq_getElem (by omega)] <;> rfl
            · rw [List.getElem?_eq_none (by omega), List.getElem?_eq_none (by omega)] <;> rfl
        · have e0 := setE_out (E := Ew) hj inv
          rcases sim.2 j with ⟨m, m', q1, q2⟩ | ⟨q1, q2⟩
          · rcases s3.2 j with ⟨m2, m3, q3, q4⟩ | ⟨q3, q4⟩
            · exact .inl ⟨m, m3, q1, by rw [wipe_get, if_neg hj]; exact q4⟩
            · rw [e0, q2] at q3; exact absurd rfl (q3 m')
          · refine .inr ⟨q1, ?_⟩
            rw [wipe_get (E := E3), if_neg hj]
            rcases s3.2 j with ⟨m2, m3, q3, q4⟩ | ⟨q3, q4⟩
            · rw [e0, q2] at q3; exact absurd q3 (q1 m2)
            · rw [q4, e0, q2]
    refine ⟨Γ.with D, ad, setE Ew as, k, E2, ok2, h7, fun v H3 fr3 ok3 sim3 r3 => ?_⟩
    cases r3
    rw [wS] at fr3
    have fr13 := fr.trans' (fr2.of0.trans' fr3)
    have hd3 : H3 D = some (.lst accV) := fr3.eq D _ (fr2.eq D _ hd id) (fun z => nA1 (ok1.wa D z))
    have g3 : Go H' (Ao (Γ.with D) io ad E1) H3 (Ao (Γ.with D) io ad E1) := Go.frm (fr2.of0.trans' fr3) fun a z => (ok1.wa a z).elim (fun z => .inl (.inl z)) .inr
    cases k with
    | false =>
      have h8' : lcL vs τ gt fe (ds.drop (i + 1)) (wipeE E2 vs) = some (rest, Et) := h8
      obtain ⟨okn, _, _⟩ := ok3.wipe fun j hj => sim3.isOwn (uS j hj)
      rw [ewp] at okn
      exact ⟨_, accV, accD, rest, okn, next sim3, fr13, hd3, g3.repL _ _ r, by omega, h8', e2⟩
    | true =>
      have h8' : ((fe E2).bind fun s => (lcL vs τ gt fe (ds.drop (i + 1)) (wipeE s.2 vs)).map fun t => (s.1 :: t.1, t.2)) = some (rest, Et) := h8
      obtain ⟨⟨y', E3⟩, h9, h10⟩ := Option.bind_eq_some_iff.mp h8'
      obtain ⟨⟨rest', Et'⟩, h11, h12⟩ := Option.map_eq_some_iff.mp h10
      cases h12
      rw [if_pos rfl]
      refine ⟨Γ.with D, ad, E2, y', E3, ok3, h9, fun u H4 fr4 ok4 sim4 r4 => ?_⟩
      rw [sim3.Wo, wS] at fr4
      rw [sim3.Ao, aS] at r4
      have hd4 : H4 D = some (.lst accV) := fr4.eq D _ hd3 (fun z => nA1 (ok1.wa D z))
      have dl := its.len
      refine ⟨accV, hd4, by omega, ?_⟩
      have sim34 := sim3.trans sim4
      obtain ⟨okn, _, _⟩ := ok4.wipe fun j hj => sim34.isOwn (uS j hj)
      rw [ewp] at okn
      obtain ⟨okp, gp⟩ := okn.putA (p := D) (o := .lst (accV ++ [u])) (.inr rfl) nW
      rw [simW (next sim34)] at gp
      have g4 : Go H3 (Ao (Γ.with D) io ad E1) H4 (Ao (Γ.with D) io ad E1) := Go.frm fr4 fun a z => (ok1.wa a z).elim (fun z => .inl (.inl z)) .inr
      refine ⟨_, accV ++ [u], accD ++ [y'], rest', okp, next sim34, ?_, upd_same, ?_, by rw [List.length_append, List.length_singleton]; omega, h11, by rw [List.append_assoc]; exact e2⟩
      · refine ⟨fun a o h n => ?_, fun a h => upd_on ((fr13.trans' fr4).on a h)⟩
        have ne : a ≠ D := fun z => by subst z; rw [hD] at h; cases h
        rw [upd_ne ne]
        exact (fr13.trans' fr4).eq a o h n
      · exact gp.repL _ _ (((g4.repL _ _ (g3.repL _ _ r))).append (repL_cons r4 repL_nil))
  · rintro H' ⟨Ew, accV, accD, rest, ok, sim, fr, hd, r, hl, e1, e2⟩
    rw [hn, List.drop_length] at e1
    cases e1
    rw [List.append_nil] at e2
    subst e2
    have hlE : Et.length = E1.length := by rw [sim.1, wipeE_length]
    have simE : Sim E1 (backE E1 Et vs) := by
      refine ⟨backE_length hlE vs, fun j => ?_⟩
      rw [backE_get hlE]
      by_cases hj : j ∈ vs
      · rw [if_pos hj]
        exact (Sim.refl E1).2 j
      · rw [if_neg hj]
        have := sim.2 j
        rw [wipe_get, if_neg hj] at this
        exact this
    have aE : Ao (Γ.with D) io ad (backE E1 Et vs) = Ao (Γ.with D) io ad E1 := simE.Ao
    have g := goD fr
    have back : ∀ (j : Nat) (m : M), (backE E1 Et vs)[j]? = some (B.o m) → Et[j]? = some (B.o m) ∧ j ∉ vs := fun j m z => by
      rw [backE_get hlE] at z
      by_cases hj : j ∈ vs
      · rw [if_pos hj] at z
        have := hno' j hj
        rw [z] at this
        cases this
      · rw [if_neg hj] at z
        exact ⟨z, hj⟩
    refine q D accV H' (fr1.trans' (by rw [sim1.Wo] at fr; exact fr)) (frm_none fr1 hD) hd (Nat.le_trans hl (by rw [hn]; exact its.len)) ?_ (by rw [aE]; exact r) (sim1.trans simE)
    refine ⟨by rw [backE_length hlE]; exact ok1.len, ok.w, ok.oA, ok.hk, fun j d z => ?_, fun j m z => ?_, fun j m z => ok.obi j m (back j m z).1, fun j m z => ok.obn j m (back j m z).1, fun j k m m' z1 z2 => ok.inj j k m m' (back j m z1).1 (back k m' z2).1⟩
    · rw [backE_get hlE] at z
      rw [aE]
      by_cases hj : j ∈ vs
      · rw [if_pos hj] at z
        obtain ⟨v, q1, q2⟩ := ok1.vl j d z
        exact ⟨v, q1, g.rep d v q2⟩
      · rw [if_neg hj] at z
        obtain ⟨v, q1, q2⟩ := ok.vl j d z
        rw [wipe_out hj] at q1
        exact ⟨v, q1, by rw [simW sim] at q2; exact q2⟩
    · obtain ⟨z', hj⟩ := back j m z
      obtain ⟨q1, q2⟩ := ok.ob j m z'
      rw [wipe_out hj] at q1
      exact ⟨q1, by rw [aE, ← simW sim]; exact q2⟩
theorem ll_lc {fl : Lf} {τ : Tf} {scope : Scope} {own : List (Str × Nat)} (ht : TOk io τ) (hv : TIn (own.map (·.2)) τ) (hc : X.calm = true) (hN : X.N.Nodup) (hi : PI X tg iter (iD X.K io fl)) (ok : BlkOk X.N X.env.scope scope own)
    (hg : ∀ (s : Shared) (H : Hp) (C : Addr) (cl : List (Str × Addr)) (fp : List Addr), PG (X.blk s H scope (compEnvC scope cl C X.env) fp) tg (gD X.K τ)) (hts : ∀ (s : Shared) (H : Hp) (C : Addr) (cl : List (Str × Addr)) (fp : List Addr), PTs (X.blk s H scope (compEnvC scope cl C X.env) fp) ifs (cD X.K io gt))
    (he : ∀ (s : Shared) (H : Hp) (C : Addr) (cl : List (Str × Addr)) (fp : List Addr), PE (X.blk s H scope (compEnvC scope cl C X.env) fp) elt (tD X.K io fe)) (hs : ∀ x, foldedSetIterable iter X.env x = pure x := by intro _; rfl) :
    PE X (.ListComp elt [⟨tg, iter, ifs, 0⟩] scope pos) (lD X.K io (fLc (own.map (·.2)) fl τ gt fe)) := (pe_lc hc hN hi ok hg hts he hs).imp fun σ H Q w => lc_sound ht hv w
end
end DL

namespace DL
open PySem PySem.Spec PyProof.Rows L2
/-! ### promises of defs where no text of a thing is being made (so that repr may be asked) -/
structure RoomG (k : Nat) (A : Around) : Prop where
  rm : Room k A
  gd : A.guards = some []
theorem RoomG.units {k : Nat} {A : Around} (h : RoomG k A) : A.units + 64 < cLine := h.rm.units
structure FnG (P : Program) (w : World) (K : PySem.W.Frag) (mg : Str → Option Value) (base : Heap) (CX : CXT) (k : Nat) (f : Addr) (fd : FuncData) (ps : List Str) (sp : Sp) : Prop where
  lng : ∀ vs H Q E, sp vs H Q E → vs.length = ps.length
  go : ∀ (A : Around) (outer : List Env) (s : Shared) (H : Hp) (as : Args) (us : List Value) (vs : List V) (Q : VK) (E : XK), RoomG k A → Env0 P w K mg base A outer s H → BindsTo s fd as (ps.zip us) → Vals vs us → sp vs H Q E →
    codeAny (model P w) A (.call (.ref f) as) (CR CX outer P w H s Q E) s
section
variable {CX : CXT} {P : Program} {w : World} {K : PySem.W.Frag} {mg : Str → Option Value} {base : Heap} {k : Nat} {f : Addr} {x qual : Str} {params : Arguments} {body : List Stmt} {scope : Scope} {fd : FuncData} {N ps : List Str} {sp : Sp}
theorem okG (F : FunD K x qual params body scope [] [] f fd) (S : FnScope N ps scope) (lng : ∀ vs H Q E, sp vs H Q E → vs.length = ps.length)
    (hb : ∀ (cdv : Value) (A : Around) (outer : List Env) (s : Shared) (H : Hp) (vs : List V) (Q : VK) (E : XK), RoomG k (A.deeper (envOfC qual scope s.heap.objs.size f cdv)) → sp vs H Q E →
      ∃ t, PSs (cxOf CX P w K mg base N qual scope f cdv A outer s H E) body t ∧ t { nx := fun _ H' => Q .non H', rt := Q } (start N vs) H) : FnG P w K mg base CX (k + 1) f fd ps sp := by
  obtain ⟨oc, od, dV, kV, doc, pm, an, cdv, ct, osl, rfl, lk, hcd, _⟩ := F.ex
  refine ⟨lng, fun A outer s H as us vs Q E hr e0 hbd rv hsp => ?_⟩
  have keep0 := fun b o (e : base.get? b = some o) => (e0.bs b o e).1
  have KX : K.In s.heap := e0.mod.kin.keeps keep0
  refine codeAny_call_function hr.rm.depth (KX _ _ lk) rfl S.co S.gen rfl (PySem.W.codeRec_of KX hcd) (hbd _ _ _ _ (wpAny_newFunctionEnv_cells S.kind (fun ⟨n, v⟩ hy => (S.par n (List.of_mem_zip hy).1).imp id fun q => ⟨q, PySem.W.cellsFrom_some _ _ _ (.inl q)⟩) fun env he s1 x => ?_))
  cases he
  obtain ⟨t, ht, hq⟩ := hb cdv A outer s H vs Q E ⟨hr.rm.deeper _, hr.gd⟩ hsp
  have I0 : Inv (cxOf CX P w K mg base N qual scope f cdv A outer s H E) [] (start N vs) H s1 := inv_start S hr.rm.hd e0 (lng _ _ _ _ hsp) rv x
  refine ⟨(e0.mod.nolimit.keeps keep0).keeps x.toInCall.keep, codeAny_func (wpAny_mono (ht.run [] s1 (start N vs) H _ I0 hq) (fun fl s' hs => ?_) fun _ _ z => z)⟩
  have fin : ∀ {σ' : L2.St} {H' : Hp} {v : V} {u : Value}, Inv (cxOf CX P w K mg base N qual scope f cdv A outer s H E) [] σ' H' s' → RelV v u → Q v H' → CE outer P w H s Q u s' := fun {_ H' v _} J r' q' => ⟨v, H', J.os, J.bare, J.base, J.hok, r', q'⟩
  match fl, hs with
  | .ret u, ⟨_, _, _, J, r', q'⟩ => exact fin J r' q'
  | .next, ⟨_, _, J, q'⟩ => exact fin (v := V.non) (u := Value.none) J rfl q'
  | .brk, ⟨_, _, _, q'⟩ => exact q'.elim
  | .cont, ⟨_, _, _, q'⟩ => exact q'.elim
end
section
variable {X : Cx} {CX : CXT} {k : Nat} {f : Addr} {fd : FuncData} {ps : List Str} {ds : List Value} {dvs : List V} {sp : Sp} {E : XK} {x : Str} {p pos : Pos} {e : Expr} {es : List Expr} {t : TA}
theorem run_fnG {pins : List (Addr × Obj)} {σ : L2.St} {H : Hp} {s : Shared} {Q : VK} {us : List Value} {vs : List V} (F : FnG X.prog X.w X.K X.mg X.base CX k f fd ps sp) (hr : RoomG k X.A) (hb : Binds X.K fd ps []) (hx : Passes CX X E)
    (I : Inv X pins σ H s) (r : Vals vs us) (h : sp vs H Q E) : wpAny (model X.prog X.w) X.A (call (.ref f) us) (EP X pins σ Q) X.xe s := by
  have hl : us.length = ps.length := r.length.symm.trans (F.lng _ _ _ _ h)
  have bd := hb s us I.kIn (by rw [List.append_nil]; exact hl)
  rw [List.append_nil] at bd
  refine wpAny_call (codeAny_mono (F.go X.A X.stack s H ⟨us, []⟩ us vs Q E hr I.env0 bd r h) fun rr s' hq => ?_)
  match rr, hq with
  | .error e, hq => exact hx pins σ H s e s' I hq
  | .ok (.ret u), hq => exact I.after hq
  | .ok .next, hq => exact hq.elim
  | .ok .brk, hq => exact hq.elim
  | .ok .cont, hq => exact hq.elim
theorem pe_callG (F : FnG X.prog X.w X.K X.mg X.base CX k f fd ps sp) (hr : RoomG k X.A) (hg : Gl X x) (hm : X.mg x = some (.ref f)) (hk : PySem.W.keepIn X.K (.ref f) = true) (hb : Binds X.K fd ps []) (hx : Passes CX X E)
    (ha : PA X (e :: es) t) (hdb : (x == ("__debug__" : Str)) = false := by decide) (he : starEach (e :: es) X.env = (false, eval e X.env) :: starEach es X.env := by rfl) (hpl : (backTo pos (starEach es X.env)).any (·.1) = false := by rfl) :
    PE X (.Call (.Name x p) (e :: es) [] pos) (tCall sp [] E t) :=
  ⟨fun pins s σ H Q I h => wpAny_Call_Name_kw (ld_glob I hg hm (PySem.W.callWith_K (h₀ := X.base) I.ok.mod.kin hk (thn (ha.run pos pins s σ H _ I h) fun us s1 ⟨vs, H1, I1, r, q⟩ => ⟨I1.kIn, run_fnG F hr hb hx I1 r (by have q2 : sp (vs ++ []) H1 Q E := q; rwa [List.append_nil] at q2)⟩) he hpl) hdb)⟩
theorem pe_callG0 (F : FnG X.prog X.w X.K X.mg X.base CX k f fd ps sp) (hr : RoomG k X.A) (hg : Gl X x) (hm : X.mg x = some (.ref f)) (hk : PySem.W.keepIn X.K (.ref f) = true) (hb : Binds X.K fd ps []) (hx : Passes CX X E)
    (hdb : (x == ("__debug__" : Str)) = false := by decide) : PE X (.Call (.Name x p) [] [] pos) (tCall sp [] E tNil) :=
  ⟨fun pins s σ H Q I h => wpAny_Call_Name_kw (ld_glob I hg hm (PySem.W.callWith_K0 I.kIn hk (run_fnG (us := []) (vs := []) F hr hb hx I .nil h)) hdb)⟩
end
end DL

namespace DL
open PySem PySem.Spec PyProof.Rows L2
/-- the law's call, by a promise that may ask repr -/
theorem law_callG {P : Program} {w : World} {K : PySem.W.Frag} {mg mb : Str → Option Value} {k : Nat} {fa a : Addr} {fd : FuncData} {x : Str} {sp : Sp} {s : Shared} {vs : List Value} {ns : List Int}
    (KX : K.In s.heap) (hns : s.heap.Ns mainGlobals mg) (hb : s.heap.Ns builtinsNs mb) (hbb : ∀ x : Str, x ≠ "__name__" → mb x = bootBuiltins x) (hlim : s.heap.NoLimit) (hsm : ∃ mm, s.heap.Ns sysModules mm) (hg : s.gens = #[])
    (ha : s.heap.get? a = some { cls := .type "list", data := .seq vs.toArray }) (hi : IntsAre vs ns) (hl : ns.length ≤ sizeLine) (hr : Room k callerA)
    (F : ∀ base : Heap, K.In base → base.Ns mainGlobals mg → (base.get? sysModules).isSome = true → FnG P w K mg base CX0 k fa fd [x] sp) (hbd : ∀ (s : Shared) (u : Value), BindsTo s fd ⟨[u], []⟩ [(x, u)])
    (hsp : ∀ H : Hp, Only H → SqL K H a (ns.map V.int) → sp [.ref a] H (fun v _ => v = .bl true) fun _ _ _ => False) :
    codeAny (model P w) callerA (.call (.ref fa) ⟨[.ref a], []⟩) (fun r s' => r = .ok (.ret (.bool true)) ∧ OldK s.heap s'.heap ∧ s'.os = s.os ∧ AllBare s'.gens) s := by
  have lv := hi.length
  have main : ∀ H : Hp, Only H → SqL K H a (ns.map V.int) → HOk P w H s.heap → (∀ b, H b ≠ none → b = a) → (H a ≠ none → K.lookup a = none) →
      codeAny (model P w) callerA (.call (.ref fa) ⟨[.ref a], []⟩) (fun r s' => r = .ok (.ret (.bool true)) ∧ OldK s.heap s'.heap ∧ s'.os = s.os ∧ AllBare s'.gens) s := fun H hO hS ok hA hK => by
    have only : ∀ {b : Addr} {o : Obj}, s.heap.get? b = some o → b ≠ a ∨ H b = none → (hidT s.heap H).get? b = some o := fun {b o} e hn => hidT_get e (by
      by_cases z : H b = none
      · exact z
      · exact hn.elim (fun q => absurd (hA b z) q) id)
    have nd : ∀ {b : Addr} {m : Str → Option Value}, s.heap.Ns b m → (hidT s.heap H).Ns b m := fun {b m} ⟨o, es, ep, e, d, r⟩ => ⟨o, es, ep, only e (.inl fun q => by
      rw [q, ha] at e
      cases e
      exact absurd (show Data.seq vs.toArray 0 = Data.dict es ep from d) (fun z => nomatch z)), d, r⟩
    have kb : K.In (hidT s.heap H) := fun b o e => only (KX b o e) (by
      by_cases z : H b = none
      · exact .inr z
      · refine .inl fun q => ?_
        rw [q] at z e
        rw [hK z] at e
        cases e)
    have md : Mod K mg (hidT s.heap H) := ⟨kb, nd hns, ⟨mb, nd hb, hbb⟩, hlim.elim fun mc h => ⟨mc, nd h.1, h.2⟩⟩
    have e0 : Env0 P w K mg (hidT s.heap H) callerA [] s H := ⟨rfl, md, fun b o e => of_hidT e, Nat.le_of_eq (hidT_size _ _), trivial, fun b hb => (List.not_mem_nil (show b ∈ ([] : List Addr) from hb)).elim, ok, .of_eq hg⟩
    refine codeAny_mono ((F _ kb (nd hns) (hsm.elim fun mm h => (nd h).elim fun o h => by obtain ⟨_, _, e, _⟩ := h; rw [e]; rfl)).go callerA [] s H ⟨[.ref a], []⟩ [.ref a] [.ref a] _ _ ⟨hr, rfl⟩ e0 (hbd s (.ref a)) (.cons rfl .nil) (hsp H hO hS)) fun r s' h => ?_
    match r, h with
    | .error e, h => exact h.elim
    | .ok .next, h => exact h.elim
    | .ok .brk, h => exact h.elim
    | .ok .cont, h => exact h.elim
    | .ok (.ret u), ⟨v, H', os, bare, un, ok', r', q⟩ =>
      cases (show v = .bl true from q)
      cases (show u = Value.bool true from r')
      refine ⟨rfl, OldK.of_keep fun b o e => ?_, os, bare⟩
      rcases hO b with z | ⟨ob, xs, z⟩
      · exact un.keep b o e z (fun c => (List.not_mem_nil (show b ∈ ([] : List Addr) from c)).elim) (by simp)
      · have t := (ok b _ z).1
        rw [e] at t
        cases t
        exact (ok' b _ (un.frzs b _ _ z)).1
  by_cases hk : ∃ o, K.lookup a = some o
  · obtain ⟨o, hk⟩ := hk
    have e := (KX a o hk).symm.trans ha
    cases e
    exact main (fun _ => none) (fun _ => .inl rfl) (.inr ⟨_, vs.toArray, _, hk, rfl, rfl, rfl, by rw [List.size_toArray, lv]; exact hl, by simpa using vals_ints hi⟩) (fun b u z => nomatch (show (none : Option HO) = some u from z)) (fun b z => absurd rfl z) fun z => absurd rfl z
  · have hk' : K.lookup a = none := by
      cases q : K.lookup a with
      | none => rfl
      | some o => exact absurd ⟨o, q⟩ hk
    have at_ : ∀ b, (if b = a then some (HO.frz { cls := .type "list", data := .seq vs.toArray } (.lst (ns.map V.int))) else none) = none ∨ b = a := fun b => by
      by_cases c : b = a
      · exact .inr c
      · exact .inl (if_neg c)
    refine main (fun b => if b = a then some (.frz { cls := .type "list", data := .seq vs.toArray } (.lst (ns.map V.int))) else none) (fun b => (at_ b).imp id fun c => ⟨_, _, if_pos c⟩) (.inl (.inr ⟨_, if_pos rfl⟩)) (fun b u z => ?_) (fun b z => (at_ b).elim (fun q => absurd q z) id) fun _ => hk'
    rcases at_ b with c | c
    · exact nomatch (c.symm.trans z)
    · subst c
      have z2 := (if_pos rfl).symm.trans z
      cases z2
      exact ⟨ha, by rw [List.length_map]; exact hl, vs, _, vals_ints hi, ha⟩
theorem walk_ofG {l : PySem.W.OpenLaw} {n k : Nat} {q : Program} {loose : List Str} {XP : (Str → Option Value) → Heap → Prop} {YP : World → Heap → Prop} {d : DefRec} {x : Str}
    (hn : l.most = some n) (hn2 : n ≤ sizeLine) (hdf : d.params.defaults = []) (hi : importsNone q = true) (hr : Room k callerA)
    (F : ∀ (w : World) (mg : Str → Option Value) (fa : Addr) (h : Heap), YP w h → h.Ns mainGlobals mg → mg d.name = some (.ref fa) →
      ∃ (K : PySem.W.Frag) (fd : FuncData) (sp : Sp), K.In h ∧ (∀ (s : Shared) (u : Value), BindsTo s fd ⟨[u], []⟩ [(x, u)]) ∧
        (∀ (H : Hp) (a : Addr) (ns : List Int), ns.length ≤ n → Only H → SqL K H a (ns.map V.int) → sp [.ref a] H (fun v _ => v = .bl true) fun _ _ _ => False) ∧
        ∀ base : Heap, K.In base → base.Ns mainGlobals mg → (base.get? sysModules).isSome = true → FnG l.prog w K mg base CX0 k fa fd [x] sp) :
    PySem.W.WalkO q loose XP YP l.row.toRowW d [] (fun f vs => PySem.call f vs) := by
  refine Att.attach_call hn hdf fun w s0 s1 mg mb fa o pm cd doc a vs ns G Y ho hd hcd hmg hobj hints hlen hg => ?_
  obtain ⟨K, fd, sp, KX, hb, hsp, hF⟩ := F w mg fa _ Y G.T.g hmg
  exact law_callG KX G.T.g G.T.b G.T.builtins G.T.nolimit ((G.T.seer hi).mods.elim fun mm h => ⟨mm, h.1⟩) hg hobj hints (Nat.le_trans hlen hn2) hr hF hb fun H hO hS => hsp H a ns hlen hO hS
end DL

namespace DL
open PySem PySem.Spec PyProof.Rows L2

/-! ### defs -/
abbrev Fn := Env' → Option (PyData × Env')
def outs (io : List Nat) (E : Env') : Env' := io.map fun i => (E[i]?).getD B.u
/-- what a def promises: n parameters, those at io changed in place -/
def spF (K : PySem.W.Frag) (n : Nat) (io : List Nat) (fn : Fn) : Sp := fun vs H Q _ => ∃ Γ ad E r E', EOk K Γ io ad (vs.map some) H E ∧ E.length = n ∧ (∀ (i : Nat) (m : M), E[i]? = some (B.o m) → i ∈ io) ∧ fn E = some (r, E') ∧
  ∀ v H', Frm Γ.W H H' → (∀ (j k : Nat) (m : M), io[j]? = some k → E'[j]? = some (B.o m) → ObjD K H' Γ.A (ad k) m) → RepD K H' Γ.A r v → Q v H'
def bodyFn (io : List Nat) (pad : Nat) (f : Sf) : Fn := fun E => (f (E ++ List.replicate pad B.u)).bind fun o => match o with
  | .rt d E' => some (d, outs io E')
  | .nx E' => some (PyData.none, outs io E')
  | _ => none
section
variable {P : Program} {w : World} {K : PySem.W.Frag} {mg : Str → Option Value} {base : Heap} {x qual : Str} {params : Arguments} {body : List Stmt} {scope : Scope} {f : Addr} {fd : FuncData} {io : List Nat} {pad : Nat} {b : Sf}
theorem outs_at {E : Env'} {j k : Nat} {m : M} (h : io[j]? = some k) (e : (outs io E)[j]? = some (B.o m)) : E[k]? = some (B.o m) := by
  unfold outs at e
  rw [List.getElem?_map, h] at e
  have e' : (E[k]?).getD B.u = B.o m := Option.some.inj e
  cases q : E[k]? with
  | none => rw [q] at e'; cases e'
  | some b => rw [q] at e'; exact congrArg some e'
theorem EOk.padded {Γ : Gm} {ad : Nat → Addr} {σ : L2.St} {H : Hp} {E : Env'} (ok : EOk K Γ io ad σ H E) (n : Nat) : EOk K Γ io ad (σ ++ List.replicate n none) H (E ++ List.replicate n B.u) ∧ Own io ad (E ++ List.replicate n B.u) = Own io ad E := by
  have at_ : ∀ (j : Nat) (b : B), b ≠ B.u → (E ++ List.replicate n B.u)[j]? = some b → E[j]? = some b := fun j b nb z => by
    by_cases q : j < E.length
    · rw [List.getElem?_append_left q] at z; exact z
    · rw [List.getElem?_append_right (by omega), List.getElem?_replicate] at z
      split at z
      · cases z; exact absurd rfl nb
      · cases z
  have at' : ∀ (j : Nat) (b : B), E[j]? = some b → (E ++ List.replicate n B.u)[j]? = some b := fun j b z => by
    rw [List.getElem?_append_left (List.getElem?_eq_some_iff.mp z).1]; exact z
  have so : ∀ {α : Type} (j : Nat) (y : α) (l r : List α), l[j]? = some y → (l ++ r)[j]? = some y := fun j y l r z => by
    rw [List.getElem?_append_left (List.getElem?_eq_some_iff.mp z).1]; exact z
  have oe : Own io ad (E ++ List.replicate n B.u) = Own io ad E := by
    funext a
    exact propext ⟨fun ⟨i, m, h1, h2, h3⟩ => ⟨i, m, h1, at_ i _ (fun z => nomatch z) h2, h3⟩, fun ⟨i, m, h1, h2, h3⟩ => ⟨i, m, h1, at' i _ h2, h3⟩⟩
  have ae : Ao Γ io ad (E ++ List.replicate n B.u) = Ao Γ io ad E := by funext a; unfold Ao; rw [oe]
  refine ⟨⟨by rw [List.length_append, List.length_append, List.length_replicate, List.length_replicate, ok.len], ok.w, ok.oA, ok.hk, fun j d z => ?_, fun j m z => ?_, fun j m z => ok.obi j m (at_ j _ (fun z => nomatch z) z), fun j m z => ok.obn j m (at_ j _ (fun z => nomatch z) z), fun j k m m' z1 z2 => ok.inj j k m m' (at_ j _ (fun z => nomatch z) z1) (at_ k _ (fun z => nomatch z) z2)⟩, oe⟩
  · obtain ⟨v, h1, h2⟩ := ok.vl j d (at_ j _ (fun z => nomatch z) z)
    exact ⟨v, so _ _ _ _ h1, by rw [ae]; exact h2⟩
  · obtain ⟨h1, h2⟩ := ok.ob j m (at_ j _ (fun z => nomatch z) z)
    exact ⟨so _ _ _ _ h1, by rw [ae]; exact h2⟩
/-- THE RULE for a def: its body's reading -/
theorem fn_ok {N ps : List Str} {k : Nat} (F : FunD K x qual params body scope [] [] f fd) (S : FnScope N ps scope) (hp : N.length - ps.length = pad)
    (hb : ∀ (cdv : Value) (A : Around) (outer : List Env) (s : Shared) (H : Hp) (E : XK), RoomG k (A.deeper (envOfC qual scope s.heap.objs.size f cdv)) → PSs (cxOf CX0 P w K mg base N qual scope f cdv A outer s H E).nox body (sD K io b)) :
    FnG P w K mg base CX0 (k + 1) f fd ps (spF K ps.length io (bodyFn io pad b)) := by
  refine okG F S (fun vs H Q E h => ?_) fun cdv A outer s H vs Q E hr h => ⟨sD K io b, PSs.nox (hb cdv A outer s H E hr), ?_⟩
  · obtain ⟨Γ, ad, Bs, r, E', ok, hl, _⟩ := h
    rw [← hl, ← ok.len, List.length_map]
  · obtain ⟨Γ, ad, Bs, r, E', ok, hl, hio, he, q⟩ := h
    obtain ⟨o, h1, h2⟩ := Option.bind_eq_some_iff.mp he
    have hv : vs.length = ps.length := by rw [← hl, ← ok.len, List.length_map]
    obtain ⟨ok2, oe⟩ := ok.padded pad
    have st : L2.start N vs = vs.map some ++ List.replicate pad none := by
      unfold L2.start
      rw [hv, hp]
    rw [st]
    have noOwn : ∀ a, ¬ Own io ad (Bs ++ List.replicate pad B.u) a := fun a z => by
      rw [oe] at z
      obtain ⟨i, m, z1, z2, _⟩ := z
      exact z1 (hio i m z2)
    refine ⟨Γ, ad, _, o, ok2, h1, ?_⟩
    have fin : ∀ (v : V) (d : PyData) (E2 : Env') (σ' : L2.St) (H' : Hp) (ad' : Nat → Addr), r = d → E' = outs io E2 → Step Γ io ad (Bs ++ List.replicate pad B.u) H ad' E2 H' → EOk K Γ io ad' σ' H' E2 → RepD K H' Γ.A d v → Q v H' := fun v d E2 σ' H' ad' e1 e2 s' ok' rd => by
      subst e1 e2
      refine q v H' ⟨fun a o h n => s'.fr.eq a o h fun z => z.elim n (noOwn a), s'.fr.on⟩ (fun j k m z1 z2 => ?_) rd
      have z3 := outs_at z1 z2
      obtain ⟨_, z4⟩ := ok'.ob k m z3
      rw [s'.io k (List.mem_of_getElem? z1)] at z4
      cases m with
      | lst xs => obtain ⟨ws, y0, y1, y2⟩ := z4; exact ⟨ws, y0, y1, (Go.less ao_A).repL xs ws y2⟩
    cases o with
    | rt d E2 => cases h2; exact fun v σ' H' ad' s' ok' rd => fin v _ E2 σ' H' ad' rfl rfl s' ok' rd
    | nx E2 => cases h2; exact fun σ' H' ad' s' ok' => fin .non _ E2 σ' H' ad' rfl rfl s' ok' rep_non
    | bk E2 => cases h2
    | ct E2 => cases h2
end

/-! ### calls -/
/-- the slots of the own objects that are handed in, by parameter -/
def slotsG : List G → Nat → List (Nat × Nat)
  | [], _ => []
  | .v _ :: gs, k => slotsG gs (k + 1)
  | .s i :: gs, k => (k, i) :: slotsG gs (k + 1)
def argB (E : Env') : List G → Option Env'
  | [] => some []
  | .v d :: gs => (argB E gs).map fun bs => B.v d :: bs
  | .s i :: gs => match E[i]? with
    | some (B.o m) => (argB E gs).map fun bs => B.o m :: bs
    | _ => none
def putB (E : Env') : List Nat → Env' → Option Env'
  | [], [] => some E
  | i :: is, B.o m :: bs => putB (E.set i (B.o m)) is bs
  | _, _ => none
def fCall (io' : List Nat) (fn : Fn) (args : Af) : Ef := fun E => (args E).bind fun r => if (slotsG r.1 0).map (·.1) = io' ∧ ((slotsG r.1 0).map (·.2)).Nodup then
  (argB r.2 r.1).bind fun bs => (fn bs).bind fun s => (putB r.2 ((slotsG r.1 0).map (·.2)) s.2).map fun E' => (s.1, E') else none
theorem argB_len {E : Env'} : ∀ {gs : List G} {bs : Env'}, argB E gs = some bs → bs.length = gs.length
  | [], bs, h => by cases h; rfl
  | .v d :: gs, bs, h => by
    obtain ⟨bs', h1, h2⟩ := Option.map_eq_some_iff.mp h
    subst h2
    rw [List.length_cons, List.length_cons, argB_len h1]
  | .s i :: gs, bs, h => by
    unfold argB at h
    split at h
    · obtain ⟨bs', h1, h2⟩ := Option.map_eq_some_iff.mp h
      subst h2
      rw [List.length_cons, List.length_cons, argB_len h1]
    · cases h
theorem argB_v {E : Env'} : ∀ {gs : List G} {bs : Env'} {k : Nat} {d : PyData}, argB E gs = some bs → bs[k]? = some (B.v d) → gs[k]? = some (.v d)
  | [], bs, k, d, h, e => by cases h; simp at e
  | .v d' :: gs, bs, k, d, h, e => by
    obtain ⟨bs', h1, h2⟩ := Option.map_eq_some_iff.mp h
    subst h2
    cases k with
    | zero => simp at e; subst e; rfl
    | succ k => simpa using argB_v h1 (by simpa using e)
  | .s i :: gs, bs, k, d, h, e => by
    unfold argB at h
    split at h
    · obtain ⟨bs', h1, h2⟩ := Option.map_eq_some_iff.mp h
      subst h2
      cases k with
      | zero => simp at e
      | succ k => simpa using argB_v h1 (by simpa using e)
    · cases h
theorem argB_o {E : Env'} : ∀ {gs : List G} {bs : Env'} {k : Nat} {m : M}, argB E gs = some bs → bs[k]? = some (B.o m) → ∃ i, gs[k]? = some (.s i) ∧ E[i]? = some (B.o m)
  | [], bs, k, d, h, e => by cases h; simp at e
  | .v d' :: gs, bs, k, m, h, e => by
    obtain ⟨bs', h1, h2⟩ := Option.map_eq_some_iff.mp h
    subst h2
    cases k with
    | zero => simp at e
    | succ k => simpa using argB_o h1 (by simpa using e)
  | .s i :: gs, bs, k, m, h, e => by
    unfold argB at h
    split at h
    · rename_i m' hm
      obtain ⟨bs', h1, h2⟩ := Option.map_eq_some_iff.mp h
      subst h2
      cases k with
      | zero => simp at e; subst e; exact ⟨i, rfl, hm⟩
      | succ k => simpa using argB_o h1 (by simpa using e)
    · cases h
theorem slots_mem : ∀ {gs : List G} {n k i : Nat}, (k, i) ∈ slotsG gs n ↔ n ≤ k ∧ gs[k - n]? = some (.s i)
  | [], n, k, i => by simp [slotsG]
  | .v d :: gs, n, k, i => by
    show (k, i) ∈ slotsG gs (n + 1) ↔ _
    rw [slots_mem]
    constructor
    · rintro ⟨h1, h2⟩
      refine ⟨by omega, ?_⟩
      have : k - n = (k - (n + 1)) + 1 := by omega
      rw [this]; simpa using h2
    · rintro ⟨h1, h2⟩
      by_cases e : k = n
      · subst e; simp at h2
      · refine ⟨by omega, ?_⟩
        have : k - n = (k - (n + 1)) + 1 := by omega
        rw [this] at h2; simpa using h2
  | .s j :: gs, n, k, i => by
    show (k, i) ∈ (n, j) :: slotsG gs (n + 1) ↔ _
    rw [List.mem_cons, slots_mem]
    constructor
    · rintro (h | ⟨h1, h2⟩)
      · cases h; exact ⟨Nat.le_refl _, by simp⟩
      · refine ⟨by omega, ?_⟩
        have : k - n = (k - (n + 1)) + 1 := by omega
        rw [this]; simpa using h2
    · rintro ⟨h1, h2⟩
      by_cases e : k = n
      · subst e; simp at h2; subst h2; exact .inl rfl
      · refine .inr ⟨by omega, ?_⟩
        have : k - n = (k - (n + 1)) + 1 := by omega
        rw [this] at h2; simpa using h2
theorem repG_v {ad : Nat → Addr} {K : PySem.W.Frag} {H : Hp} {A : Addr → Prop} : ∀ {gs : List G} {vs : List V} {k : Nat} {d : PyData}, RepG ad K H A gs vs → gs[k]? = some (.v d) → ∃ v, vs[k]? = some v ∧ RepD K H A d v
  | [], vs, k, d, h, e => by simp at e
  | .v d' :: gs, vs, k, d, h, e => by
    obtain ⟨v, r, q, h1, h2⟩ := h
    subst q
    cases k with
    | zero => simp at e; subst e; exact ⟨v, rfl, h1⟩
    | succ k => simpa using repG_v h2 (by simpa using e)
  | .s i :: gs, vs, k, d, h, e => by
    obtain ⟨r, q, h2⟩ := h
    subst q
    cases k with
    | zero => simp at e
    | succ k => simpa using repG_v h2 (by simpa using e)
theorem repG_s {ad : Nat → Addr} {K : PySem.W.Frag} {H : Hp} {A : Addr → Prop} : ∀ {gs : List G} {vs : List V} {k i : Nat}, RepG ad K H A gs vs → gs[k]? = some (.s i) → vs[k]? = some (.ref (ad i))
  | [], vs, k, d, h, e => by simp at e
  | .v d' :: gs, vs, k, d, h, e => by
    obtain ⟨v, r, q, h1, h2⟩ := h
    subst q
    cases k with
    | zero => simp at e
    | succ k => simpa using repG_s h2 (by simpa using e)
  | .s i :: gs, vs, k, d, h, e => by
    obtain ⟨r, q, h2⟩ := h
    subst q
    cases k with
    | zero => simp at e; subst e; rfl
    | succ k => simpa using repG_s h2 (by simpa using e)
theorem repG_len {ad : Nat → Addr} {K : PySem.W.Frag} {H : Hp} {A : Addr → Prop} : ∀ {gs : List G} {vs : List V}, RepG ad K H A gs vs → vs.length = gs.length
  | [], vs, h => by unfold RepG at h; subst h; rfl
  | .v d' :: gs, vs, h => by
    obtain ⟨v, r, q, h1, h2⟩ := h
    subst q
    rw [List.length_cons, List.length_cons, repG_len h2]
  | .s i :: gs, vs, h => by
    obtain ⟨r, q, h2⟩ := h
    subst q
    rw [List.length_cons, List.length_cons, repG_len h2]
/-- what putB does: at the slots the new objects, else as it was -/
theorem putB_spec : ∀ {is : List Nat} {bs E E' : Env'}, is.Nodup → (∀ i ∈ is, ∃ m, E[i]? = some (B.o m)) → putB E is bs = some E' →
    Sim E E' ∧ (∀ (j : Nat), j ∉ is → E'[j]? = E[j]?) ∧ ∀ (n i : Nat), is[n]? = some i → ∃ m, bs[n]? = some (B.o m) ∧ E'[i]? = some (B.o m)
  | [], [], E, E', _, _, h => by cases h; exact ⟨Sim.refl E, fun _ _ => rfl, fun n i e => by simp at e⟩
  | [], _ :: _, E, E', _, _, h => by cases h
  | _ :: _, [], E, E', _, _, h => by cases h
  | i :: is, B.u :: bs, E, E', _, _, h => by cases h
  | i :: is, B.v _ :: bs, E, E', _, _, h => by cases h
  | i :: is, B.o m :: bs, E, E', nd, ho, h => by
    obtain ⟨m0, hm0⟩ := ho i List.mem_cons_self
    have hi : i < E.length := (List.getElem?_eq_some_iff.mp hm0).1
    have nd' := List.nodup_cons.mp nd
    have s1 : Sim E (E.set i (B.o m)) := by
      refine ⟨List.length_set, fun j => ?_⟩
      by_cases q : i = j
      · subst q; exact .inl ⟨m0, m, hm0, List.getElem?_set_self hi⟩
      · rw [List.getElem?_set_ne q]; exact (Sim.refl E).2 j
    obtain ⟨s2, o2, g2⟩ := putB_spec (is := is) (bs := bs) (E := E.set i (B.o m)) nd'.2 (fun j hj => s1.own.mpr (ho j (List.mem_cons_of_mem _ hj))) h
    refine ⟨s1.trans s2, fun j hj => ?_, fun n k e => ?_⟩
    · have h1 : j ∉ is := fun z => hj (List.mem_cons_of_mem _ z)
      have h2 : i ≠ j := fun z => hj (z ▸ List.mem_cons_self)
      rw [o2 j h1, List.getElem?_set_ne h2]
    · cases n with
      | zero =>
        simp at e
        subst e
        exact ⟨m, rfl, by rw [o2 i nd'.1, List.getElem?_set_self hi]⟩
      | succ n => simpa using g2 n k (by simpa using e)
section
variable {X : Cx} {io : List Nat} {e : Expr} {es : List Expr} {fr : Af} {pos : Pos}
theorem sp_call {K : PySem.W.Frag} {n : Nat} {io' : List Nat} {fn : Fn} {EX : XK} (hn : ∀ {gs : List G} {E E1 : Env'}, fr E = some (gs, E1) → gs.length = n) {σ : L2.St} {H : Hp} {Q : VK} (w : tD K io (fCall io' fn fr) σ H Q) : aD K io fr σ H fun vs H1 => spF K n io' fn (vs ++ []) H1 Q EX := by
  obtain ⟨Γ, ad, E0, d, E', ok0, he, q⟩ := w
  obtain ⟨⟨gs, E1⟩, h1, h2⟩ := Option.bind_eq_some_iff.mp he
  refine ⟨Γ, ad, E0, gs, E1, ok0, h1, fun vs H1 fr1 ok1 sim1 rg => ?_⟩
  split at h2
  rotate_left
  · cases h2
  rename_i hc
  obtain ⟨hio, hnd⟩ := hc
  obtain ⟨bs, h3, h4⟩ := Option.bind_eq_some_iff.mp h2
  obtain ⟨⟨r, os⟩, h5, h6⟩ := Option.bind_eq_some_iff.mp h4
  obtain ⟨E2, h7, h8⟩ := Option.map_eq_some_iff.mp h6
  cases h8
  rw [List.append_nil]
  let sl := slotsG gs 0
  -- the callee's addresses
  let ad' : Nat → Addr := fun k => match gs[k]? with
    | some (.s i) => ad i
    | _ => 0
  have ad'_s : ∀ {k i : Nat}, gs[k]? = some (.s i) → ad' k = ad i := fun {k i} h => by show (match gs[k]? with | some (.s i) => ad i | _ => 0) = _; rw [h]
  let Γ' : Gm := ⟨Ao Γ io ad E0, fun a => ∃ k i, (k, i) ∈ sl ∧ a = ad i, H1⟩
  have aE : Ao Γ io ad E1 = Ao Γ io ad E0 := sim1.Ao
  have isO : ∀ {k i : Nat}, gs[k]? = some (.s i) → ∃ m, E1[i]? = some (B.o m) := by
    have : ∀ {gs : List G} {bs : Env'} {k i : Nat}, argB E1 gs = some bs → gs[k]? = some (.s i) → ∃ m, E1[i]? = some (B.o m) := by
      intro gs
      induction gs with
      | nil => intro bs k i _ e; simp at e
      | cons g gs ih =>
        intro bs k i h e
        cases g with
        | v d =>
          obtain ⟨bs', z1, z2⟩ := Option.map_eq_some_iff.mp h
          cases k with
          | zero => simp at e
          | succ k => exact ih z1 (by simpa using e)
        | s j =>
          unfold argB at h
          split at h
          · rename_i m hm
            obtain ⟨bs', z1, z2⟩ := Option.map_eq_some_iff.mp h
            cases k with
            | zero => simp at e; subst e; exact ⟨m, hm⟩
            | succ k => exact ih z1 (by simpa using e)
          · cases h
    exact fun {k i} h => this h3 h
  have inIo : ∀ {k i : Nat}, gs[k]? = some (.s i) → k ∈ io' := fun {k i} h => by
    rw [← hio]
    exact List.mem_map.mpr ⟨(k, i), slots_mem.mpr ⟨Nat.zero_le _, h⟩, rfl⟩
  have slotInj : ∀ {k k' i : Nat}, gs[k]? = some (.s i) → gs[k']? = some (.s i) → k = k' := by
    intro k k' i h h'
    have a1 : (k, i) ∈ sl := slots_mem.mpr ⟨Nat.zero_le _, h⟩
    have a2 : (k', i) ∈ sl := slots_mem.mpr ⟨Nat.zero_le _, h'⟩
    obtain ⟨n1, l1, e1⟩ := List.getElem_of_mem a1
    obtain ⟨n2, l2, e2⟩ := List.getElem_of_mem a2
    have hl : (sl.map (·.2)).length = sl.length := List.length_map _
    have : n1 = n2 := by
      refine (List.getElem_inj (h₀ := by rw [hl]; exact l1) (h₁ := by rw [hl]; exact l2) hnd).mp ?_
      rw [List.getElem_map, List.getElem_map, e1, e2]
    subst this
    rw [e1] at e2
    exact (Prod.mk.inj e2).1
  have noOwn : ∀ a, ¬ Own io' ad' bs a := fun a ⟨k, m, z1, z2, _⟩ => by
    obtain ⟨i, z3, _⟩ := argB_o h3 z2
    exact z1 (inIo z3)
  have aE' : ∀ a, Ao Γ' io' ad' bs a → Ao Γ io ad E0 a := fun a h => h.elim id fun z => absurd z (noOwn a)
  have len : vs.length = bs.length := by rw [repG_len rg, argB_len h3]
  refine ⟨Γ', ad', bs, _, os, ⟨by rw [List.length_map]; exact len, fun a h => ?_, fun a h => ?_, fun a h => h, fun k d z => ?_, fun k m z => ?_, fun k m z hk => ?_, fun k m z hk => ?_, fun k k' m m' z z' hz => ?_⟩, ?_, fun k m z => ?_, h5, fun v H2 fr2 objs rd => ?_⟩
  · obtain ⟨k, i, z1, z2⟩ := h
    obtain ⟨m, z3⟩ := isO (by simpa using (slots_mem.mp z1).2)
    show Ao Γ io ad E0 a
    rw [z2, ← aE]
    exact ok1.wa _ (ok1.wo z3)
  · exact ok1.on a (by rw [aE]; exact h)
  · obtain ⟨v, q1, q2⟩ := repG_v rg (argB_v h3 z)
    exact ⟨v, by rw [List.getElem?_map, q1] <;> rfl, (Go.less aE').rep d v q2⟩
  · obtain ⟨i, z1, z2⟩ := argB_o h3 z
    refine ⟨by rw [List.getElem?_map, repG_s rg z1, ad'_s z1] <;> rfl, ?_⟩
    rw [ad'_s z1]
    obtain ⟨_, z3⟩ := ok1.ob i m z2
    cases m with
    | lst xs => obtain ⟨ws, y0, y1, y2⟩ := z3; exact ⟨ws, y0, y1, (Go.less fun a h => by rw [aE]; exact aE' a h).repL xs ws y2⟩
  · obtain ⟨i, z1, z2⟩ := argB_o h3 z
    exact ⟨k, i, slots_mem.mpr ⟨Nat.zero_le _, z1⟩, ad'_s z1⟩
  · obtain ⟨i, z1, z2⟩ := argB_o h3 z
    exact absurd (inIo z1) hk
  · obtain ⟨i, z1, z2⟩ := argB_o h3 z
    obtain ⟨i', z1', z2'⟩ := argB_o h3 z'
    rw [ad'_s z1, ad'_s z1'] at hz
    have := ok1.inj i i' m m' z2 z2' hz
    subst this
    exact slotInj z1 z1'
  · rw [argB_len h3]; exact hn h1
  · obtain ⟨i, z1, z2⟩ := argB_o h3 z
    exact inIo z1
  · -- behind the call
    obtain ⟨sim2, out2, at2⟩ := putB_spec hnd (fun i hi => by
      obtain ⟨⟨k, i'⟩, z1, z2⟩ := List.mem_map.mp hi
      have z2 : i' = i := z2
      subst z2
      exact isO (by simpa using (slots_mem.mp z1).2)) h7
    have wsub : ∀ a, Γ'.W a → Wo Γ io ad E1 a := fun a ⟨k, i, z1, z2⟩ => by
      obtain ⟨m, z3⟩ := isO (by simpa using (slots_mem.mp z1).2)
      rw [z2]
      exact ok1.wo z3
    have fr2' : Frm (Wo Γ io ad E1) H1 H2 := ⟨fun a o h n => fr2.eq a o h fun z => n (wsub a z), fr2.on⟩
    have g : Go H1 (Ao Γ io ad E1) H2 (Ao Γ io ad E1) := Go.frm fr2' ok1.wa
    have aE2 := fun Γ => sim2.Ao (Γ := Γ) (io := io) (ad := ad)
    have eio : io' = sl.map (·.1) := hio.symm
    refine q v H2 (fr1.trans' (by rw [sim1.Wo] at fr2'; exact fr2')) ?_ (sim1.trans sim2) rd
    refine ⟨by rw [ok1.len, sim2.1], ok1.w, fun a h => fr2.on a (ok1.oA a h), fun a h => fr2.on a (ok1.hk a h), fun i d z => ?_, fun i m z => ?_, fun i m z hi => ?_, fun i m z hi => ?_, fun i j m m' z1 z2 => ?_⟩
    · rcases sim2.2 i with ⟨m1, m2, y1, y2⟩ | ⟨y1, y2⟩
      · rw [y2] at z; cases z
      · rw [y2] at z
        obtain ⟨u, x1, x2⟩ := ok1.vl i d z
        exact ⟨u, x1, by rw [aE2 Γ]; exact g.rep d u x2⟩
    · obtain ⟨m0, hm0⟩ := sim2.own.mp ⟨m, z⟩
      refine ⟨(ok1.ob i m0 hm0).1, ?_⟩
      rw [aE2 Γ]
      by_cases hi : i ∈ sl.map (·.2)
      · obtain ⟨⟨k, i'⟩, z1, z2⟩ := List.mem_map.mp hi
        have z2 : i' = i := z2
        subst z2
        obtain ⟨n, hn, en⟩ := List.getElem_of_mem z1
        have e1 : (sl.map (·.2))[n]? = some i' := by rw [List.getElem?_map, List.getElem?_eq_getElem hn, en] <;> rfl
        have e2 : io'[n]? = some k := by rw [eio, List.getElem?_map, List.getElem?_eq_getElem hn, en] <;> rfl
        obtain ⟨m3, e3, e4⟩ := at2 n i' e1
        rw [e4] at z
        cases z
        have o := objs n k m e2 e3
        rw [ad'_s (by simpa using (slots_mem.mp z1).2)] at o
        have o' : ObjD K H2 (Ao Γ io ad E0) (ad i') m := o
        rw [aE]
        exact o'
      · rw [out2 i hi] at z
        obtain ⟨_, z3⟩ := ok1.ob i m z
        have nw : ¬ Γ'.W (ad i) := fun ⟨k, j, z1, z2⟩ => by
          obtain ⟨m4, z4⟩ := isO (by simpa using (slots_mem.mp z1).2)
          have e := ok1.inj i j m m4 z z4 z2
          exact hi (List.mem_map.mpr ⟨(k, j), z1, e.symm⟩)
        cases m with
        | lst xs => obtain ⟨ws, y0, y1, y2⟩ := z3; exact ⟨ws, fr2.eq _ _ y0 nw, y1, g.repL xs ws y2⟩
    · obtain ⟨m0, hm0⟩ := sim2.own.mp ⟨m, z⟩; exact ok1.obi i m0 hm0 hi
    · obtain ⟨m0, hm0⟩ := sim2.own.mp ⟨m, z⟩; exact ok1.obn i m0 hm0 hi
    · obtain ⟨m3, z3⟩ := sim2.own.mp ⟨m, z1⟩
      obtain ⟨m4, z4⟩ := sim2.own.mp ⟨m', z2⟩
      exact ok1.inj i j m3 m4 z3 z4
/-- an argument list of so many -/
def ALen (fr : Af) (n : Nat) : Prop := ∀ {gs : List G} {E E1 : Env'}, fr E = some (gs, E1) → gs.length = n
theorem alen_nil : ALen aNil 0 := fun h => by cases h; rfl
theorem alen_v {fe : Ef} {n : Nat} (h : ALen fr n) : ALen (aV fe fr) (n + 1) := fun {gs E E1} e => by
  obtain ⟨⟨d, E2⟩, h1, h2⟩ := Option.bind_eq_some_iff.mp e
  obtain ⟨⟨gs', E3⟩, h3, h4⟩ := Option.map_eq_some_iff.mp h2
  cases h4
  rw [List.length_cons, h h3]
theorem alen_s {i n : Nat} (h : ALen fr n) : ALen (aS i fr) (n + 1) := fun {gs E E1} e => by
  unfold aS at e
  split at e
  · obtain ⟨⟨gs', E3⟩, h3, h4⟩ := Option.map_eq_some_iff.mp e
    cases h4
    rw [List.length_cons, h h3]
  · cases e
variable {k : Nat} {f : Addr} {fd : FuncData} {ps : List Str} {x : Str} {p : Pos} {n : Nat} {io' : List Nat} {fn : Fn}
theorem de_call (F : FnG X.prog X.w X.K X.mg X.base CX0 k f fd ps (spF X.K n io' fn)) (hr : RoomG k X.A) (hg : Gl X x) (hm : X.mg x = some (.ref f)) (hk : PySem.W.keepIn X.K (.ref f) = true) (hb : Binds X.K fd ps []) (ha : PA X (e :: es) (aD X.K io fr)) (hl : ALen fr n)
    (hdb : (x == ("__debug__" : Str)) = false := by decide) (he : starEach (e :: es) X.env = (false, eval e X.env) :: starEach es X.env := by rfl) (hpl : (backTo pos (starEach es X.env)).any (·.1) = false := by rfl) :
    PE X (.Call (.Name x p) (e :: es) [] pos) (tD X.K io (fCall io' fn fr)) := (pe_callG F hr hg hm hk hb pass0 ha hdb he hpl).imp fun σ H Q w => sp_call (fun h => hl h) w
theorem de_call0 (F : FnG X.prog X.w X.K X.mg X.base CX0 k f fd ps (spF X.K 0 io' fn)) (hr : RoomG k X.A) (hg : Gl X x) (hm : X.mg x = some (.ref f)) (hk : PySem.W.keepIn X.K (.ref f) = true) (hb : Binds X.K fd ps [])
    (hdb : (x == ("__debug__" : Str)) = false := by decide) : PE X (.Call (.Name x p) [] [] pos) (tD X.K io (fCall io' fn aNil)) := (pe_callG0 F hr hg hm hk hb pass0 hdb).imp fun σ H Q w => by
  obtain ⟨Γ, ad, E, gs, E1, ok, h1, k⟩ := sp_call (fr := aNil) (n := 0) (EX := E0) (fun h => alen_nil h) w
  cases h1
  exact k [] H Frm.refl ok (Sim.refl _) (by unfold RepG; rfl)
end
end DL

namespace DL
open PySem PySem.Spec PyProof.Rows L2

/-! ### defs that give a new list, to be the caller's own -/
abbrev FnL := Env' → Option (List PyData × Env')
def spL (K : PySem.W.Frag) (n : Nat) (io : List Nat) (fn : FnL) : Sp := fun vs H Q _ => ∃ Γ ad E r E', EOk K Γ io ad (vs.map some) H E ∧ E.length = n ∧ (∀ (i : Nat) (m : M), E[i]? = some (B.o m) → i ∈ io) ∧ fn E = some (r, E') ∧
  ∀ p vs' H', Frm Γ.W H H' → H p = none → H' p = some (.lst vs') → vs'.length ≤ sizeLine → (∀ (j k : Nat) (m : M), io[j]? = some k → E'[j]? = some (B.o m) → ObjD K H' (Γ.with p).A (ad k) m) → RepL K H' (Γ.with p).A r vs' → Q (.ref p) H'
/-- a body that ends by such a return -/
def qD (K : PySem.W.Frag) (io : List Nat) (f : Lf) : TS := fun Dn σ H => ∃ Γ ad E ds E', EOk K Γ io ad σ H E ∧ f E = some (ds, E') ∧ ∀ p vs σ' H' ad', Frm (Wo Γ io ad E) H H' → H p = none → H' p = some (.lst vs) → vs.length ≤ sizeLine →
  EOk K (Γ.with p) io ad' σ' H' E' → (∀ i ∈ io, ad' i = ad i) → RepL K H' (Γ.with p).A ds vs → Dn.rt (.ref p) H'
section
variable {X : Cx} {io : List Nat} {a : Expr} {fl g : Lf} {f : Sf} {pos : Pos} {st : Stmt} {sts : List Stmt}
theorem dq_ret (he : PE X a (lD X.K io fl)) : PS X (.Return (some a) pos) (qD X.K io fl) := (ps_ret he).imp fun Dn σ H w => by
  obtain ⟨Γ, ad, E, ds, E', ok, he, q⟩ := w
  exact ⟨Γ, ad, E, ds, E', ok, he, fun p vs H' fr hp hq hz ok' r sim => q p vs σ H' ad fr hp hq hz ok' (fun _ _ => rfl) ((Go.less ao_A).repL ds vs r)⟩
theorem dq_one (h : PS X st (qD X.K io fl)) : PSs X [st] (qD X.K io fl) := pss_one h
def qSeq (f : Sf) (g : Lf) : Lf := fun E => (f E).bind fun o => match o with
  | .nx E1 => g E1
  | _ => none
theorem dq_cons (h1 : PS X st (sD X.K io f)) (h2 : PSs X sts (qD X.K io g)) : PSs X (st :: sts) (qD X.K io (qSeq f g)) := (pss_cons h1 h2).imp fun Dn σ H w => by
  obtain ⟨Γ, ad, E, ds, E', ok, he, q⟩ := w
  obtain ⟨o1, h3, h4⟩ := Option.bind_eq_some_iff.mp he
  refine ⟨Γ, ad, E, o1, ok, h3, ?_⟩
  cases o1 with
  | nx E1 =>
    exact fun σ1 H1 ad1 s1 ok1 => ⟨Γ, ad1, E1, ds, E', ok1, h4, fun p vs σ' H' ad' fr hp hq hz ok' ha r => q p vs σ' H' ad' (s1.fr.trans fr fun x h => by
      rcases h with h | h
      · exact .inl (.inl h)
      · exact (s1.own x h).imp .inr id) (frm_none s1.fr hp) hq hz ok' (fun i hi => (ha i hi).trans (s1.io i hi)) r⟩
  | rt d E1 => cases h4
  | bk E1 => cases h4
  | ct E1 => cases h4
end
def bodyFnL (io : List Nat) (pad : Nat) (f : Lf) : FnL := fun E => (f (E ++ List.replicate pad B.u)).map fun r => (r.1, outs io r.2)
section
variable {P : Program} {w : World} {K : PySem.W.Frag} {mg : Str → Option Value} {base : Heap} {x qual : Str} {params : Arguments} {body : List Stmt} {scope : Scope} {f : Addr} {fd : FuncData} {io : List Nat} {pad : Nat} {b : Lf}
theorem fnL_ok {N ps : List Str} {k : Nat} (F : FunD K x qual params body scope [] [] f fd) (S : FnScope N ps scope) (hp : N.length - ps.length = pad)
    (hb : ∀ (cdv : Value) (A : Around) (outer : List Env) (s : Shared) (H : Hp) (E : XK), RoomG k (A.deeper (envOfC qual scope s.heap.objs.size f cdv)) → PSs (cxOf CX0 P w K mg base N qual scope f cdv A outer s H E).nox body (qD K io b)) :
    FnG P w K mg base CX0 (k + 1) f fd ps (spL K ps.length io (bodyFnL io pad b)) := by
  refine okG F S (fun vs H Q E h => ?_) fun cdv A outer s H vs Q E hr h => ⟨qD K io b, PSs.nox (hb cdv A outer s H E hr), ?_⟩
  · obtain ⟨Γ, ad, Bs, r, E', ok, hl, _⟩ := h
    rw [← hl, ← ok.len, List.length_map]
  · obtain ⟨Γ, ad, Bs, r, E', ok, hl, hio, he, q⟩ := h
    obtain ⟨⟨ds, E2⟩, h1, h2⟩ := Option.map_eq_some_iff.mp he
    cases h2
    have hv : vs.length = ps.length := by rw [← hl, ← ok.len, List.length_map]
    obtain ⟨ok2, oe⟩ := ok.padded pad
    have st : L2.start N vs = vs.map some ++ List.replicate pad none := by
      unfold L2.start
      rw [hv, hp]
    rw [st]
    have noOwn : ∀ a, ¬ Own io ad (Bs ++ List.replicate pad B.u) a := fun a z => by
      rw [oe] at z
      obtain ⟨i, m, z1, z2, _⟩ := z
      exact z1 (hio i m z2)
    refine ⟨Γ, ad, _, ds, E2, ok2, h1, fun p vs' σ' H' ad' fr hp' hq hz ok' ha rr => ?_⟩
    refine q p vs' H' ⟨fun a o h n => fr.eq a o h fun z => z.elim n (noOwn a), fr.on⟩ hp' hq hz (fun j k m z1 z2 => ?_) rr
    have z3 := outs_at z1 z2
    obtain ⟨_, z4⟩ := ok'.ob k m z3
    rw [ha k (List.mem_of_getElem? z1)] at z4
    cases m with
    | lst xs => obtain ⟨ws, y0, y1, y2⟩ := z4; exact ⟨ws, y0, y1, (Go.less ao_A).repL xs ws y2⟩
end
/-- its call, where no own object is handed in -/
def fCallL (fn : FnL) (args : Af) : Lf := fun E => (args E).bind fun r => (onlyV r.1).bind fun ds => (fn (ds.map B.v)).map fun s => (s.1, r.2)
section
variable {X : Cx} {io : List Nat} {e : Expr} {es : List Expr} {fr : Af} {pos : Pos}
variable {k : Nat} {f : Addr} {fd : FuncData} {ps : List Str} {x : Str} {p : Pos} {n : Nat} {fn : FnL}
theorem sp_callL {K : PySem.W.Frag} {EX : XK} (hn : ALen fr n) {σ : L2.St} {H : Hp} {Q : VK} (w : lD K io (fCallL fn fr) σ H Q) : aD K io fr σ H fun vs H1 => spL K n [] fn (vs ++ []) H1 Q EX := by
  obtain ⟨Γ, ad, E0, ds', E', ok0, he, q⟩ := w
  obtain ⟨⟨gs, E1⟩, h1, h2⟩ := Option.bind_eq_some_iff.mp he
  obtain ⟨ds, h3, h4⟩ := Option.bind_eq_some_iff.mp h2
  obtain ⟨⟨r, os⟩, h5, h6⟩ := Option.map_eq_some_iff.mp h4
  cases h6
  refine ⟨Γ, ad, E0, gs, E1, ok0, h1, fun vs H1 fr1 ok1 sim1 rg => ?_⟩
  show spL K n [] fn (vs ++ []) H1 Q EX
  rw [List.append_nil]
  have rl := RepG.repL (onlyV_map h3) rg
  have aE : Ao Γ io ad E1 = Ao Γ io ad E0 := sim1.Ao
  have noO : ∀ (i : Nat) (m : M), (ds.map B.v)[i]? = some (B.o m) → False := fun i m z => by
    rw [List.getElem?_map] at z
    obtain ⟨d, _, z⟩ := Option.map_eq_some_iff.mp z
    cases z
  refine ⟨⟨Ao Γ io ad E0, F0, H1⟩, fun _ => 0, ds.map B.v, r, os, ⟨by rw [List.length_map, List.length_map, rl.length], fun _ h => h.elim, fun a h => ok1.on a (by rw [aE]; exact h), fun _ h => h, fun i d z => ?_, fun i m z => (noO i m z).elim, fun i m z => (noO i m z).elim, fun i m z => (noO i m z).elim, fun i j m m' z => (noO i m z).elim⟩, ?_, fun i m z => (noO i m z).elim, h5, fun p vs' H2 fr2 hp hq hz _ rr => ?_⟩
  · rw [List.getElem?_map] at z
    obtain ⟨d', z1, z2⟩ := Option.map_eq_some_iff.mp z
    cases z2
    obtain ⟨v, q1, q2⟩ := rl.get z1
    refine ⟨v, by rw [List.getElem?_map, q1] <;> rfl, (Go.less fun a h => ?_).rep d v q2⟩
    rcases h with h | ⟨i, m, _, z, _⟩
    · exact h
    · exact (noO i m z).elim
  · rw [List.length_map, ← rl.length, repG_len rg]; exact hn h1
  · have g : Go H1 (Ao Γ io ad E1) H2 (Ao (Γ.with p) io ad E1) := ⟨fun a o h _ => fr2.eq a o h id, fun a h => by
      rcases h with (h | h) | h
      · exact .inl (.inl h)
      · subst h; exact .inr hp
      · exact .inl (.inr h)⟩
    refine q p vs' H2 (fr1.trans' fr2.of0) (frm_none fr1 hp) hq hz ?_ ((Go.less fun a h => ?_).repL _ _ rr) sim1
    · refine ⟨ok1.len, fun a h => .inl (ok1.w a h), fun a h => ?_, fun a h => fr2.on a (ok1.hk a h), fun i d z => ?_, fun i m z => ?_, ok1.obi, fun i m z hi => ⟨(ok1.obn i m z hi).1, fun z' => ?_⟩, ok1.inj⟩
      · rcases h with h | h
        · exact fr2.on a (ok1.oA a h)
        · subst h; rw [hq]; exact fun z => nomatch z
      · obtain ⟨v, q1, q2⟩ := ok1.vl i d z
        exact ⟨v, q1, g.rep d v q2⟩
      · obtain ⟨q1, q2⟩ := ok1.ob i m z
        refine ⟨q1, ?_⟩
        cases m with
        | lst xs => obtain ⟨ws, y0, y1, y2⟩ := q2; exact ⟨ws, fr2.eq _ _ y0 id, y1, g.repL xs ws y2⟩
      · rcases z' with z' | z'
        · exact (ok1.obn i m z hi).2 z'
        · have := ok1.on (ad i) (.inr ⟨i, m, hi, z, rfl⟩)
          rw [z'] at this
          exact this hp
    · rcases h with (h | h) | h
      · exact .inl (by rw [← aE]; exact .inl h)
      · exact .inr h
      · exact .inl (by rw [← aE]; exact .inr h)
theorem ll_call (F : FnG X.prog X.w X.K X.mg X.base CX0 k f fd ps (spL X.K n [] fn)) (hr : RoomG k X.A) (hg : Gl X x) (hm : X.mg x = some (.ref f)) (hk : PySem.W.keepIn X.K (.ref f) = true) (hb : Binds X.K fd ps []) (ha : PA X (e :: es) (aD X.K io fr)) (hl : ALen fr n)
    (hdb : (x == ("__debug__" : Str)) = false := by decide) (he : starEach (e :: es) X.env = (false, eval e X.env) :: starEach es X.env := by rfl) (hpl : (backTo pos (starEach es X.env)).any (·.1) = false := by rfl) :
    PE X (.Call (.Name x p) (e :: es) [] pos) (lD X.K io (fCallL fn fr)) := (pe_callG F hr hg hm hk hb pass0 ha hdb he hpl).imp fun σ H Q w => sp_callL hl w
end

/-! ### the module's constants -/
mutual
def repB (K : PySem.W.Frag) : PyData → Value → Bool
  | .none, .none => true
  | .bool b, .bool c => b == c
  | .int i, .int j _ => decide (i = j)
  | .str x, .str y _ => decide (x = y) && decide (x.length ≤ 1000)
  | .tuple ds, .ref a => (match K.lookup a with
    | some ⟨.type "tuple", _, .seq its _, _⟩ => decide (its.size ≤ 1000) && repBs K ds its.toList
    | _ => false)
  | _, _ => false
def repBs (K : PySem.W.Frag) : List PyData → List Value → Bool
  | [], [] => true
  | d :: ds, u :: us => repB K d u && repBs K ds us
  | _, _ => false
end
mutual
theorem repB_ok {K : PySem.W.Frag} : ∀ (d : PyData) (u : Value), repB K d u = true → ∃ v, RelV v u ∧ ∀ H A, RepD K H A d v
  | .none, u, h => by cases u <;> first | exact ⟨.non, rfl, fun _ _ => rep_non⟩ | cases h
  | .bool b, u, h => by
    cases u <;> first
      | (have e := eq_of_beq (show (b == _) = true from h); subst e; exact ⟨.bl b, rfl, fun _ _ => rep_bl⟩)
      | cases h
  | .int i, u, h => by
    cases u <;> first
      | (have e : i = _ := of_decide_eq_true h; subst e; exact ⟨.int i, ⟨_, rfl⟩, fun _ _ => rep_int⟩)
      | cases h
  | .str x, u, h => by
    cases u <;> first
      | (obtain ⟨h1, h2⟩ := Bool.and_eq_true_iff.mp h
         have e : x = _ := of_decide_eq_true h1
         subst e
         exact ⟨.str x, ⟨_, rfl⟩, fun _ _ => rep_str (Nat.le_trans (of_decide_eq_true h2) (by decide))⟩)
      | cases h
  | .tuple ds, u, h => by
    cases u with
    | ref a =>
      unfold repB at h
      split at h
      · rename_i dd its n sl e
        obtain ⟨h1, h2⟩ := Bool.and_eq_true_iff.mp h
        obtain ⟨vs, r, rep⟩ := repBs_ok ds its.toList h2
        have hz : its.size ≤ sizeLine := Nat.le_trans (of_decide_eq_true h1) (by decide)
        have hl := r.length
        rw [Array.length_toList] at hl
        exact ⟨.ref a, rfl, fun H A => rep_tup (.inr (.inr ⟨_, its, n, e, rfl, rfl, hz, r⟩)) (Nat.le_trans (Nat.le_of_eq hl) hz) (rep H A)⟩
      · cases h
    | _ => cases h
  | .list _, u, h => by cases u <;> cases h
  | .dict _, u, h => by cases u <;> cases h
theorem repBs_ok {K : PySem.W.Frag} : ∀ (ds : List PyData) (us : List Value), repBs K ds us = true → ∃ vs, Vals vs us ∧ ∀ H A, RepL K H A ds vs
  | [], [], _ => ⟨[], .nil, fun _ _ => repL_nil⟩
  | [], _ :: _, h => by cases h
  | _ :: _, [], h => by cases h
  | d :: ds, u :: us, h => by
    unfold repBs at h
    obtain ⟨h1, h2⟩ := Bool.and_eq_true_iff.mp h
    obtain ⟨v, r1, q1⟩ := repB_ok d u h1
    obtain ⟨vs, r2, q2⟩ := repBs_ok ds us h2
    exact ⟨v :: vs, .cons r1 r2, fun H A => repL_cons (q1 H A) (q2 H A)⟩
end
/-- the module's name x stands for d -/
def gloB (K : PySem.W.Frag) (x : Str) (d : PyData) : Bool := match PySem.W.nsIn K mainGlobals x with
  | some (some u) => repB K d u
  | _ => false
theorem gloB_ok {K : PySem.W.Frag} {h : Heap} {mg : Str → Option Value} (X : K.In h) (G : h.Ns mainGlobals mg) {x : Str} {d : PyData} (c : gloB K x d = true) : ∃ u v, mg x = some u ∧ RelV v u ∧ ∀ H A, RepD K H A d v := by
  unfold gloB at c
  split at c
  · rename_i u e
    obtain ⟨v, r, q⟩ := repB_ok d u c
    exact ⟨u, v, PySem.W.mg_of X G e, r, q⟩
  · cases c
section
variable {X : Cx} {io : List Nat} {a b : Expr} {fa fb : Ef} {pos : Pos}
theorem de_glob {x : Str} {d : PyData} (hg : Gl X x) (hm : ∃ u v, X.mg x = some u ∧ RelV v u ∧ ∀ H A, RepD X.K H A d v) (hd : (x == ("__debug__" : Str)) = false := by decide) : PE X (.Name x pos) (tD X.K io (fC d)) := by
  obtain ⟨u, v, h1, h2, h3⟩ := hm
  exact de_c (pe_glob hg h1 h2 hd) h3
/-! ### dicts of the module's top, keys texts -/
def tblLook (t : List (Str × PyData)) (z : Str) : Option PyData := match t.find? fun p => decide (p.1 = z) with
  | some p => some p.2
  | none => none
structure GDict (K : PySem.W.Frag) (w : World) (a : Addr) (t : List (Str × PyData)) : Prop where
  kd : ∃ es n, KDict K w a es n
  yes : ∀ z d, tblLook t z = some d → ∃ u v, PySem.W.nsIn K a z = some (some u) ∧ RelV v u ∧ ∀ H A, RepD K H A d v
  no : ∀ z, tblLook t z = none → PySem.W.nsIn K a z = some none
def tblB (K : PySem.W.Frag) (x : Str) (t : List (Str × PyData)) : Bool := (match K.lookup (He.ga K x) with
    | some ⟨_, _, .dict es _, _⟩ => es.toList.all fun e => match e.key with
      | .str y _ => (t.any fun p => decide (p.1 = y)) && !e.refKey
      | _ => false
    | _ => false) && t.all fun p => match PySem.W.nsIn K (He.ga K x) p.1 with
  | some (some u) => repB K p.2 u
  | _ => false
theorem tblB_ok {K : PySem.W.Frag} {w : World} {x : Str} {t : List (Str × PyData)} (hk : ∃ es n, KDict K w (He.ga K x) es n) (h : tblB K x t = true) : GDict K w (He.ga K x) t := by
  obtain ⟨h1, h2⟩ := Bool.and_eq_true_iff.mp h
  refine ⟨hk, fun z d e => ?_, fun z e => ?_⟩
  · unfold tblLook at e
    split at e
    · rename_i p hp
      cases e
      have hm := List.mem_of_find?_eq_some hp
      have hz : p.1 = z := by have := List.find?_some hp; exact of_decide_eq_true this
      have h3 := List.all_eq_true.mp h2 p hm
      split at h3
      · rename_i u e
        obtain ⟨v, r, q⟩ := repB_ok _ _ h3
        exact ⟨u, v, by rw [← hz]; exact e, r, q⟩
      · cases h3
    · cases e
  · unfold tblLook at e
    split at e
    · cases e
    rename_i hno
    split at h1
    · rename_i oc od es n sl hl
      unfold PySem.W.nsIn
      rw [hl]
      show (match es.toList.find? (·.key.isStr z) with | some e => some (some e.val) | none => if es.toList.any (·.refKey) then none else some none) = _
      have f0 : es.toList.find? (·.key.isStr z) = none := by
        rw [List.find?_eq_none]
        intro en hen hz
        have h3 := List.all_eq_true.mp h1 en hen
        split at h3
        · rename_i y tk hy
          obtain ⟨h4, _⟩ := Bool.and_eq_true_iff.mp h3
          obtain ⟨p, hp, hpe⟩ := List.any_eq_true.mp h4
          have hz' : (Value.str y tk).isStr z = true := by rw [← hy]; exact hz
          have e1 : y = z := by
            simpa [Value.isStr] using hz'
          have e2 : p.1 = y := of_decide_eq_true hpe
          have := List.find?_eq_none.mp hno p hp
          exact this (decide_eq_true (e2.trans e1))
        · cases h3
      have a0 : es.toList.any (·.refKey) = false := by
        rw [List.any_eq_false]
        intro en hen hz
        have h3 := List.all_eq_true.mp h1 en hen
        split at h3
        · obtain ⟨_, h5⟩ := Bool.and_eq_true_iff.mp h3
          rw [hz] at h5
          cases h5
        · cases h3
      rw [f0, a0] <;> rfl
    · cases h1
/-- z in t, z not in t, t[z], of such a table -/
def oInT (t : List (Str × PyData)) (f : Bool → Bool) : PyData → Option PyData
  | .str z => some (.bool (f (tblLook t z).isSome))
  | _ => none
def oIxT (t : List (Str × PyData)) : PyData → Option PyData
  | .str z => tblLook t z
  | _ => none
theorem ix_kd {d : Addr} {es : Array DictEntry} {n : Nat} (D : KDict X.K X.w d es n) : IxR X (fun x y H Q => ∃ (z : Str) (u0 : Value) (v0 : V), x = .ref d ∧ y = .str z ∧ PySem.W.nsIn X.K d z = some (some u0) ∧ RelV v0 u0 ∧ Q v0 H) := by
  intro value slice pins s σ H x y v u Q I rx ry h hs
  obtain ⟨z, u0, v0, rfl, rfl, e, r, q⟩ := h
  cases rx
  obtain ⟨t, rfl⟩ := ry
  exact subscriptTail_builtinR (x := u0) (kd_type D I) PySem.F.slot_dict_getitem.lookup
    (wpAny_getItem_of (Q := fun r s' => r = u0 ∧ EP X pins σ Q r s') (PySem.strKind_is X.prog X.w z t) (PySem.W.mapOf_K (prog := X.prog) I.kIn D.at_ D.lit) (PySem.W.find_K D.at_ e) ⟨rfl, ⟨v0, H, I.tok _, r, q⟩⟩) hs
variable {x : Str} {d : Addr} {t : List (Str × PyData)} {p : Pos}
theorem de_ixT (D : GDict X.K X.w d t) (hb : PE X b (tD X.K io fb)) (hg : Gl X x) (hm : X.mg x = some (.ref d)) (hs : PlainIx b) (hd : (x == ("__debug__" : Str)) = false := by decide) :
    PE X (.Subscript (.Name x p) b pos) (tD X.K io (f1 (oIxT t) fb)) := by
  obtain ⟨es, n, kd⟩ := D.kd
  refine (pe_ix (ix_kd kd) (pe_glob (v := .ref d) hg hm rfl hd) hb hs).imp fun σ H Q w => ?_
  refine td1 (r := fun y H1 Q => ∃ (z : Str) (u0 : Value) (v0 : V), V.ref d = .ref d ∧ y = .str z ∧ PySem.W.nsIn X.K d z = some (some u0) ∧ RelV v0 u0 ∧ Q v0 H1) ?_ w
  intro H A x z vx Q hA rx hz k
  cases x with
  | str y =>
    obtain ⟨e, _⟩ := rx.str
    obtain ⟨u, v, h1, h2, h3⟩ := D.yes y z hz
    exact ⟨y, u, v, rfl, e, h1, h2, k _ _ Frm.refl (h3 _ _)⟩
  | _ => cases hz
theorem de_inT (D : GDict X.K X.w d t) (ha : PE X a (tD X.K io fa)) (hg : Gl X x) (hm : X.mg x = some (.ref d)) (hmk : behindInMarks .In (.Name x p) = false := by rfl) (hd : (x == ("__debug__" : Str)) = false := by decide) :
    PE X (.Compare a [.In] [.Name x p] pos) (tD X.K io (f1 (oInT t id) fa)) := by
  obtain ⟨es, n, kd⟩ := D.kd
  refine (pe_cmpR (op_in_kd kd) ha (pe_glob (v := .ref d) hg hm rfl hd) hmk).imp fun σ H Q w => ?_
  refine td1 (r := fun x H1 Q => ∃ (z : Str) (r : Option Value), x = .str z ∧ V.ref d = .ref d ∧ PySem.W.nsIn X.K d z = some r ∧ Q (.bl r.isSome) H1) ?_ w
  intro H A x z vx Q hA rx hz k
  cases x with
  | str y =>
    cases hz
    obtain ⟨e, _⟩ := rx.str
    cases hl : tblLook t y with
    | some dd =>
      obtain ⟨u, v, h1, _⟩ := D.yes y dd hl
      exact ⟨y, some u, e, rfl, h1, k _ _ Frm.refl (by rw [hl]; exact rep_bl)⟩
    | none => exact ⟨y, none, e, rfl, D.no y hl, k _ _ Frm.refl (by rw [hl]; exact rep_bl)⟩
  | _ => cases hz
theorem de_notInT (D : GDict X.K X.w d t) (ha : PE X a (tD X.K io fa)) (hg : Gl X x) (hm : X.mg x = some (.ref d)) (hmk : behindInMarks .NotIn (.Name x p) = false := by rfl) (hd : (x == ("__debug__" : Str)) = false := by decide) :
    PE X (.Compare a [.NotIn] [.Name x p] pos) (tD X.K io (f1 (oInT t not) fa)) := by
  obtain ⟨es, n, kd⟩ := D.kd
  refine (pe_cmpR (op_notIn_kd kd) ha (pe_glob (v := .ref d) hg hm rfl hd) hmk).imp fun σ H Q w => ?_
  refine td1 (r := fun x H1 Q => ∃ (z : Str) (r : Option Value), x = .str z ∧ V.ref d = .ref d ∧ PySem.W.nsIn X.K d z = some r ∧ Q (.bl (!r.isSome)) H1) ?_ w
  intro H A x z vx Q hA rx hz k
  cases x with
  | str y =>
    cases hz
    obtain ⟨e, _⟩ := rx.str
    cases hl : tblLook t y with
    | some dd =>
      obtain ⟨u, v, h1, _⟩ := D.yes y dd hl
      exact ⟨y, some u, e, rfl, h1, k _ _ Frm.refl (by rw [hl]; exact rep_bl)⟩
    | none => exact ⟨y, none, e, rfl, D.no y hl, k _ _ Frm.refl (by rw [hl]; exact rep_bl)⟩
  | _ => cases hz
theorem dt_inT (D : GDict X.K X.w d t) (ha : PE X a (tD X.K io fa)) (hg : Gl X x) (hm : X.mg x = some (.ref d)) (hmk : behindInMarks .In (.Name x p) = false := by rfl) (hd : (x == ("__debug__" : Str)) = false := by decide) :
    PT X (.Compare a [.In] [.Name x p] pos) (cD X.K io (f1 asB (f1 (oInT t id) fa))) := by
  obtain ⟨es, n, kd⟩ := D.kd
  refine (pt_cmpR (op_in_kd kd) ha (pe_glob (v := .ref d) hg hm rfl hd) hmk).imp fun σ H Q w => ?_
  refine dt_of (t := tOp (fun x y H Q => ∃ (z : Str) (r : Option Value), x = .str z ∧ y = .ref d ∧ PySem.W.nsIn X.K d z = some r ∧ Q (.bl r.isSome) H) (tD X.K io fa) (tC (.ref d))) (fun σ H Q w => ?_) w
  refine td1 (r := fun x H1 Q => ∃ (z : Str) (r : Option Value), x = .str z ∧ V.ref d = .ref d ∧ PySem.W.nsIn X.K d z = some r ∧ Q (.bl r.isSome) H1) ?_ w
  intro H A x z vx Q hA rx hz k
  cases x with
  | str y =>
    cases hz
    obtain ⟨e, _⟩ := rx.str
    cases hl : tblLook t y with
    | some dd =>
      obtain ⟨u, v, h1, _⟩ := D.yes y dd hl
      exact ⟨y, some u, e, rfl, h1, k _ _ Frm.refl (by rw [hl]; exact rep_bl)⟩
    | none => exact ⟨y, none, e, rfl, D.no y hl, k _ _ Frm.refl (by rw [hl]; exact rep_bl)⟩
  | _ => cases hz
theorem dt_notInT (D : GDict X.K X.w d t) (ha : PE X a (tD X.K io fa)) (hg : Gl X x) (hm : X.mg x = some (.ref d)) (hmk : behindInMarks .NotIn (.Name x p) = false := by rfl) (hd : (x == ("__debug__" : Str)) = false := by decide) :
    PT X (.Compare a [.NotIn] [.Name x p] pos) (cD X.K io (f1 asB (f1 (oInT t not) fa))) := by
  obtain ⟨es, n, kd⟩ := D.kd
  refine (pt_cmpR (op_notIn_kd kd) ha (pe_glob (v := .ref d) hg hm rfl hd) hmk).imp fun σ H Q w => ?_
  refine dt_of (t := tOp (fun x y H Q => ∃ (z : Str) (r : Option Value), x = .str z ∧ y = .ref d ∧ PySem.W.nsIn X.K d z = some r ∧ Q (.bl (!r.isSome)) H) (tD X.K io fa) (tC (.ref d))) (fun σ H Q w => ?_) w
  refine td1 (r := fun x H1 Q => ∃ (z : Str) (r : Option Value), x = .str z ∧ V.ref d = .ref d ∧ PySem.W.nsIn X.K d z = some r ∧ Q (.bl (!r.isSome)) H1) ?_ w
  intro H A x z vx Q hA rx hz k
  cases x with
  | str y =>
    cases hz
    obtain ⟨e, _⟩ := rx.str
    cases hl : tblLook t y with
    | some dd =>
      obtain ⟨u, v, h1, _⟩ := D.yes y dd hl
      exact ⟨y, some u, e, rfl, h1, k _ _ Frm.refl (by rw [hl]; exact rep_bl)⟩
    | none => exact ⟨y, none, e, rfl, D.no y hl, k _ _ Frm.refl (by rw [hl]; exact rep_bl)⟩
  | _ => cases hz
end
end DL

namespace DL
open PySem PySem.Spec PyProof.Rows L2

def vL (fl : Lf) : Ef := fun E => (fl E).map fun r => (PyData.list r.1, r.2)
def fLst1 (fr : Af) : Lf := fun E => (fr E).bind fun r => (onlyV r.1).bind fun ds => if ds.length ≤ sizeLine then some (ds, r.2) else none
def fListOf (fr : Af) : Lf := fun E => (fr E).bind fun r => (resAll r.2 r.1).bind fun ds => match ds with | [.list xs] => some (xs, r.2) | [.tuple xs] => some (xs, r.2) | _ => none
section
variable {X : Cx} {K : PySem.W.Frag} {io : List Nat} {a b c e x tg elt iter : Expr} {ifs es : List Expr} {fa fb fe : Ef} {fr : Af} {ga gt : Ev Bool} {pos : Pos} {f g h : Sf} {st : Stmt} {sts : List Stmt}
theorem sD_vl {fl : Lf} {τ : Tf} {Dn : Ends} {σ : L2.St} {H : Hp} (ht : TOk io τ) (w : sD K io (sAsg (vL fl) τ) Dn σ H) : tAsg (lD K io fl) (gD K τ) Dn σ H := by
  have w' := sD_asg ht w
  obtain ⟨Γ, ad, E, d, E1, ok, he, q⟩ := w'
  obtain ⟨⟨ds, E2⟩, h1, h2⟩ := Option.map_eq_some_iff.mp he
  cases h2
  refine ⟨Γ, ad, E, ds, E2, ok, h1, fun p vs H' fr hp hl hz ok' r sim => ?_⟩
  have np : ¬ Ao Γ io ad E p := fun z => ok.on p z hp
  refine q _ H' fr (ok'.unwith ok.w) sim (rep_lst ⟨np, .inl hl⟩ hz ((Go.less fun a z => ?_).repL ds vs r))
  rw [sim.Ao]
  exact z.elim (fun z => .inl (.inl z)) .inr
theorem ds_setLcO {i : Nat} {y : Str} {py : Pos} {scope : Scope} {own : List (Str × Nat)} {pos spos : Pos} {fl : Lf} {τ : Tf} (hi' : i ∉ io) (hy : X.N[i]? = some y) (hyl : X.env.scope.names.lookup y = some .local)
    (hsw : swapsWith (.ListComp elt [⟨tg, iter, ifs, 0⟩] scope pos) (some (.Name y py)) spos.line X.env = pure true) (ht : TOk io τ) (hv : TIn (own.map (·.2)) τ) (hc : X.calm = true) (hN : X.N.Nodup) (hi : PI X tg iter (iD X.K io fl)) (ok : BlkOk X.N X.env.scope scope own)
    (hg : ∀ (s : Shared) (H : Hp) (C : Addr) (cl : List (Str × Addr)) (fp : List Addr), PG (X.blk s H scope (compEnvC scope cl C X.env) fp) tg (gD X.K τ)) (hts : ∀ (s : Shared) (H : Hp) (C : Addr) (cl : List (Str × Addr)) (fp : List Addr), PTs (X.blk s H scope (compEnvC scope cl C X.env) fp) ifs (cD X.K io gt))
    (he : ∀ (s : Shared) (H : Hp) (C : Addr) (cl : List (Str × Addr)) (fp : List Addr), PE (X.blk s H scope (compEnvC scope cl C X.env) fp) elt (tD X.K io fe)) (hs : ∀ x, foldedSetIterable iter X.env x = pure x := by intro _; rfl) :
    PS X (.Assign [.Name y py] (.ListComp elt [⟨tg, iter, ifs, 0⟩] scope pos) spos) (sD X.K io (sOwn i (fLc (own.map (·.2)) fl τ gt fe))) :=
  (ps_setLc hc hN hy hyl hsw hi ok hg hts he hs).imp fun Dn σ H w => lc_sound ht hv (sD_own hi' w)
theorem gD_name {i : Nat} {x : V} {σ : L2.St} {H : Hp} {k : L2.St → Hp → Prop} (w : gD K (τN i) x σ H k) : gName i x σ H k := by
  unfold gD at w
  obtain ⟨A, d, as, r, e, q⟩ := w
  cases e
  exact q [(i, x)] ⟨x, [], rfl, r, rfl⟩
theorem ds_setLcV {i : Nat} {y : Str} {py : Pos} {scope : Scope} {own : List (Str × Nat)} {pos spos : Pos} {fl : Lf} {τ : Tf} (hi' : i ∉ io) (hy : X.N[i]? = some y) (hyl : X.env.scope.names.lookup y = some .local)
    (hsw : swapsWith (.ListComp elt [⟨tg, iter, ifs, 0⟩] scope pos) (some (.Name y py)) spos.line X.env = pure true) (ht : TOk io τ) (hv : TIn (own.map (·.2)) τ) (hc : X.calm = true) (hN : X.N.Nodup) (hi : PI X tg iter (iD X.K io fl)) (ok : BlkOk X.N X.env.scope scope own)
    (hg : ∀ (s : Shared) (H : Hp) (C : Addr) (cl : List (Str × Addr)) (fp : List Addr), PG (X.blk s H scope (compEnvC scope cl C X.env) fp) tg (gD X.K τ)) (hts : ∀ (s : Shared) (H : Hp) (C : Addr) (cl : List (Str × Addr)) (fp : List Addr), PTs (X.blk s H scope (compEnvC scope cl C X.env) fp) ifs (cD X.K io gt))
    (he : ∀ (s : Shared) (H : Hp) (C : Addr) (cl : List (Str × Addr)) (fp : List Addr), PE (X.blk s H scope (compEnvC scope cl C X.env) fp) elt (tD X.K io fe)) (hs : ∀ x, foldedSetIterable iter X.env x = pure x := by intro _; rfl) :
    PS X (.Assign [.Name y py] (.ListComp elt [⟨tg, iter, ifs, 0⟩] scope pos) spos) (sD X.K io (sAsg (vL (fLc (own.map (·.2)) fl τ gt fe)) (τN i))) :=
  (ps_setLc hc hN hy hyl hsw hi ok hg hts he hs).imp fun Dn σ H w => by
    have w' := sD_vl (tok_n hi') w
    refine lc_sound ht hv ?_
    obtain ⟨Γ, ad, E, ds, E', ok, h1, q⟩ := w'
    exact ⟨Γ, ad, E, ds, E', ok, h1, fun p vs H' a1 a2 a3 a4 a5 a6 a7 => gD_name (q p vs H' a1 a2 a3 a4 a5 a6 a7)⟩
end
section
variable {P : Program} {w : World} {K : PySem.W.Frag} {mg : Str → Option Value} {base : Heap} {CX : CXT} {k n : Nat} {f : Addr} {fd : FuncData} {ps : List Str} {io : List Nat}
theorem notyet (hn : n = ps.length := by rfl) : FnG P w K mg base CX k f fd ps (spF K n io fun _ => none) :=
  ⟨fun vs H Q E ⟨_, _, _, _, _, _, _, _, h, _⟩ => (nomatch h), fun A outer s H args us vs Q E _ _ _ _ ⟨_, _, _, _, _, _, _, _, h, _⟩ => (nomatch h)⟩
theorem notyetL (hn : n = ps.length := by rfl) : FnG P w K mg base CX k f fd ps (spL K n io fun _ => none) :=
  ⟨fun vs H Q E ⟨_, _, _, _, _, _, _, _, h, _⟩ => (nomatch h), fun A outer s H args us vs Q E _ _ _ _ ⟨_, _, _, _, _, _, _, _, h, _⟩ => (nomatch h)⟩
end
end DL

namespace DL
open PySem PySem.Spec PyProof.Rows L2

/-- K holds no list -/
def noLst (K : PySem.W.Frag) : Bool := K.all fun q => match q.2.cls with
  | .type n => !(n == "list")
  | _ => true
theorem noLst_rd {K : PySem.W.Frag} (h : noLst K = true) {H : Hp} {a : Addr} {xs : List V} (s : SqL K H a xs) : Rd H a (.lst xs) := by
  rcases s with s | ⟨o, its, n, h1, h2, _⟩
  · exact s
  · have hm : (a, o) ∈ K := by
      clear h
      induction K with
      | nil => cases h1
      | cons q K ih =>
        obtain ⟨b, p⟩ := q
        rw [List.lookup_cons] at h1
        split at h1
        · rename_i e
          cases h1
          have := beq_iff_eq.mp e
          subst this
          exact List.mem_cons_self
        · exact List.mem_cons_of_mem _ (ih h1)
    have := List.all_eq_true.mp h _ hm
    rw [show (a, o).2.cls = .type "list" from h2] at this
    cases this
/-- a law of a script, started -/
theorem sp_script {K : PySem.W.Frag} {fn : Fn} (hK : noLst K = true) {H : Hp} {a : Addr} {ns : List Int} {E : XK} (hl : ns.length ≤ sizeLine) (s : SqL K H a (ns.map V.int)) {E' : Env'} (h : fn [B.v (.list (ns.map .int))] = some (.bool true, E')) :
    spF K 1 [] fn [.ref a] H (fun v _ => v = .bl true) E := by
  have r : RepL K H (fun _ => False) (ns.map PyData.int) (ns.map V.int) := by
    clear h s hl
    induction ns with
    | nil => exact repL_nil
    | cons n ns ih => exact repL_cons (by unfold RepD; rfl) ih
  refine ⟨⟨fun _ => False, fun _ => False, H⟩, fun _ => 0, [B.v (.list (ns.map .int))], .bool true, E', ⟨rfl, fun a h => h.elim, fun a h => h.elim, fun a h => h, fun i d z => ?_, fun i m z => ?_, fun i m z => ?_, fun i m z => ?_, fun i j m m' z => ?_⟩, rfl, fun i m z => ?_, h, fun v H' _ _ rd => rd⟩
  · cases i with
    | zero =>
      cases z
      refine ⟨_, rfl, rep_lst ⟨fun z => z.elim id fun ⟨i, m, h1, h2, _⟩ => ?_, noLst_rd hK s⟩ (by rw [List.length_map]; exact hl) ((Go.less fun a z => ?_).repL _ _ r)⟩
      · cases i with
        | zero => cases h2
        | succ i => simp at h2
      · exact z.elim id fun ⟨i, m, h1, h2, _⟩ => by
          cases i with
          | zero => cases h2
          | succ i => simp at h2
    | succ i => simp at z
  all_goals
    cases i with
    | zero => cases z
    | succ i => simp at z
end DL

namespace DL
open PySem PySem.Spec PyProof.Rows L2

/-! ### plain lemmas for the laws' arithmetic -/
theorem szLe (n : Nat) : (n ≤ sizeLine) = (n ≤ 16777216) := rfl
theorem atI_nat {α : Type} {xs : List α} {i : Nat} {x : α} (h : xs[i]? = some x) : atI xs (i : Int) = some x := by
  have hi : i < xs.length := (List.getElem?_eq_some_iff.mp h).1
  unfold atI ixN
  rw [if_pos (by omega), if_pos (by omega)]
  simpa using h
theorem atI_0 {α : Type} (x : α) (xs : List α) : atI (x :: xs) 0 = some x := atI_nat (i := 0) rfl
theorem atI_1 {α : Type} (x y : α) (xs : List α) : atI (x :: y :: xs) 1 = some y := atI_nat (i := 1) rfl
theorem atI_2 {α : Type} (x y z : α) (xs : List α) : atI (x :: y :: z :: xs) 2 = some z := atI_nat (i := 2) rfl
theorem atI_in {α : Type} {xs : List α} {i : Int} (h0 : 0 ≤ i) (h : i < xs.length) : ∃ x ∈ xs, atI xs i = some x ∧ xs[i.toNat]? = some x := by
  obtain ⟨n, rfl⟩ := Int.eq_ofNat_of_zero_le h0
  have hn : n < xs.length := by omega
  exact ⟨xs[n], List.getElem_mem hn, atI_nat (List.getElem?_eq_getElem hn), by rw [Int.toNat_natCast]; exact List.getElem?_eq_getElem hn⟩
theorem forL_inv {τ : Tf} {body : Sf} (I : Nat → Env' → Prop) : ∀ {ds : List PyData} {E : Env'}, I ds.length E → (∀ d ∈ ds, ∀ n E, I (n + 1) E → ∃ as E', τ d = some as ∧ body (setE E as) = some (.nx E') ∧ I n E') → ∃ E', forL τ body ds E = some (.nx E') ∧ I 0 E'
  | [], E, h, _ => ⟨E, rfl, h⟩
  | d :: ds, E, h, hs => by
    obtain ⟨as, E', h1, h2, h3⟩ := hs d List.mem_cons_self _ E h
    obtain ⟨E2, h4, h5⟩ := forL_inv I (ds := ds) (E := E') h3 fun d hd => hs d (List.mem_cons_of_mem _ hd)
    refine ⟨E2, ?_, h5⟩
    unfold forL
    rw [h1]
    show (body (setE E as)).bind _ = _
    rw [h2]
    exact h4
theorem lcL_pure {vs : List Nat} {τ : Tf} {fe : Ef} {E : Env'} (g : PyData → PyData) : ∀ {ds : List PyData}, (∀ d ∈ ds, ∃ as E2, τ d = some as ∧ fe (setE E as) = some (g d, E2) ∧ wipeE E2 vs = E) → lcL vs τ gYes fe ds E = some (ds.map g, E)
  | [], _ => rfl
  | d :: ds, h => by
    obtain ⟨as, E2, h1, h2, h3⟩ := h d List.mem_cons_self
    have ih := lcL_pure g (ds := ds) fun d hd => h d (List.mem_cons_of_mem _ hd)
    unfold lcL
    rw [h1]
    show ((fe (setE E as)).bind fun s => (lcL vs τ gYes fe ds (wipeE s.2 vs)).map fun t => (s.1 :: t.1, t.2)) = _
    rw [h2]
    show ((lcL vs τ gYes fe ds (wipeE E2 vs)).map fun t => (g d :: t.1, t.2)) = _
    rw [h3, ih]
    rfl
theorem allB_map (g : PyData → Bool) (ds : List PyData) : allB (ds.map fun d => .bool (g d)) = some (ds.map g) := by
  induction ds with
  | nil => rfl
  | cons d ds ih =>
    show (some (g d)).bind (fun b => (allB (ds.map fun d => .bool (g d))).map fun bs => b :: bs) = _
    rw [ih]
    rfl
/-- a hand with draws left -/
def Hd (n : Nat) (m : M) : Prop := ∃ g h c : Int, m = .lst [.int g, .int h, .int c] ∧ 0 ≤ g ∧ 0 ≤ h ∧ h < 2 ^ 62 ∧ 0 ≤ c ∧ c + n ≤ 2 ^ 40
theorem Hd.less {n k : Nat} {m : M} (h : Hd n m) (hk : k ≤ n) : Hd k m := by
  obtain ⟨g, h, c, e, h1, h2, h3, h4, h5⟩ := h
  exact ⟨g, h, c, e, h1, h2, h3, h4, by omega⟩
theorem log2_lt {i : Int} {k : Nat} (hk : 0 < k) (h : i.natAbs < 2 ^ k) : i.natAbs.log2 < k := by
  by_cases z : i.natAbs = 0
  · rw [z]; simpa using hk
  · exact (Nat.log2_lt z).mpr h
theorem modBit (x : Int) (k : Nat) (h0 : 0 ≤ x) (h : x < k) : ∃ j : Nat, j < k ∧ x = j := by
  obtain ⟨n, rfl⟩ := Int.eq_ofNat_of_zero_le h0
  exact ⟨n, by omega, rfl⟩
def absI (i : Int) : Int := if i < 0 then -i else i
theorem oAbs_i (i : Int) : oAbs [.int i] = some (.int (absI i)) := rfl
theorem absI_nn (i : Int) : 0 ≤ absI i := by unfold absI; split <;> omega
def b2i (b : Bool) : Int := if b then 1 else 0
theorem oInt_b (b : Bool) : oInt [.bool b] = some (.int (b2i b)) := rfl
theorem oInt_i (i : Int) : oInt [.int i] = some (.int i) := rfl
theorem b2i_nn (b : Bool) : 0 ≤ b2i b := by cases b <;> decide
theorem b2i_le (b : Bool) : b2i b ≤ 1 := by cases b <;> decide
theorem lg7 : Nat.log2 7 = 2 := by decide
theorem lg7919 : Nat.log2 7919 = 12 := by decide
theorem lg104729 : Nat.log2 104729 = 16 := by decide
theorem lg60 : Nat.log2 1000000000000000000000000000000000000000000000000000000000000 = 199 := by decide
theorem beqS (a z : Str) : (a == z) = decide (z = a) := by
  by_cases h : a = z
  · subst h; simp
  · rw [decide_eq_false fun e => h e.symm]; exact beq_eq_false_iff_ne.mpr h
theorem cutP_1 {α : Type} (x : α) (xs : List α) : cutP (x :: xs) (some 1) none = xs := by
  unfold cutP
  rw [show (some (1 : Int)) = some ((1 : Nat) : Int) from rfl, HT.sIx_nat, HT.sIx_none, List.length_cons, show min 1 (xs.length + 1) = 1 by omega]
  show xs.take (xs.length + 1 - 1) = xs
  exact List.take_of_length_le (by omega)
theorem cutP_0 {α : Type} : cutP ([] : List α) (some 1) none = [] := rfl
theorem cutP_lo {α : Type} (xs : List α) (i : Nat) : cutP xs (some (i : Int)) none = xs.drop i := by
  unfold cutP
  rw [HT.sIx_nat, HT.sIx_none]
  by_cases h : i ≤ xs.length
  · rw [Nat.min_eq_left h]
    exact List.take_of_length_le (by rw [List.length_drop]; omega)
  · rw [Nat.min_eq_right (by omega), List.drop_eq_nil_of_le (Nat.le_refl _), List.drop_eq_nil_of_le (by omega)]
    simp
theorem cutP_hi {α : Type} (xs : List α) (i : Nat) : cutP xs none (some (i : Int)) = xs.take i := by
  unfold cutP
  rw [HT.sIx_nat, HT.sIx_none]
  show xs.take (min i xs.length - 0) = xs.take i
  rw [Nat.sub_zero]
  by_cases h : i ≤ xs.length
  · rw [Nat.min_eq_left h]
  · rw [Nat.min_eq_right (by omega), List.take_of_length_le (Nat.le_refl _), List.take_of_length_le (by omega)]
theorem cutP_lo1 {α : Type} (xs : List α) (i : Nat) : cutP xs (some ((i : Int) + 1)) none = xs.drop (i + 1) := cutP_lo xs (i + 1)
/-- no tuple of more than a million things, nor deeper than n -/
def Sm : Nat → PyData → Prop
  | 0, .tuple _ => False
  | n + 1, .tuple xs => xs.length ≤ 1000000 ∧ ∀ x ∈ xs, Sm n x
  | _, _ => True
theorem Sm.mono : ∀ {n k : Nat} {d : PyData}, n ≤ k → Sm n d → Sm k d
  | n, k, .none, _, _ => by cases k <;> trivial
  | n, k, .bool _, _, _ => by cases k <;> trivial
  | n, k, .int _, _, _ => by cases k <;> trivial
  | n, k, .str _, _, _ => by cases k <;> trivial
  | n, k, .list _, _, _ => by cases k <;> trivial
  | n, k, .dict _, _, _ => by cases k <;> trivial
  | 0, k, .tuple xs, _, h => h.elim
  | n + 1, 0, .tuple xs, hk, _ => by omega
  | n + 1, k + 1, .tuple xs, hk, h => ⟨h.1, fun x hx => Sm.mono (by omega) (h.2 x hx)⟩
theorem sm_str (n : Nat) (z : Str) : Sm n (.str z) := by cases n <;> trivial
theorem sm_int (n : Nat) (z : Int) : Sm n (.int z) := by cases n <;> trivial
theorem xSeq {f g : Sf} {E E1 : Env'} {o : Option O} (h : f E = some (.nx E1)) (k : g E1 = o) : sSeq f g E = o := by
  unfold sSeq; rw [h]; exact k
theorem xSeqR {f g : Sf} {E E1 : Env'} {d : PyData} (h : f E = some (.rt d E1)) : sSeq f g E = some (.rt d E1) := by
  unfold sSeq; rw [h]; rfl
theorem xIfT {gc : Ev Bool} {f g : Sf} {E E1 : Env'} {o : Option O} (h : gc E = some (true, E1)) (k : f E1 = o) : sIf gc f g E = o := by
  unfold sIf; rw [h]; exact k
theorem xIfF {gc : Ev Bool} {f g : Sf} {E E1 : Env'} {o : Option O} (h : gc E = some (false, E1)) (k : g E1 = o) : sIf gc f g E = o := by
  unfold sIf; rw [h]; exact k
/-- a test that does not hold, and nothing else -/
theorem xNo {gc : Ev Bool} {f g : Sf} {E E1 : Env'} {o : Option O} (h : gc E = some (false, E1)) (k : g E1 = o) : sSeq (sIf gc f sNil) g E = o := xSeq (xIfF h rfl) k
/-- a test that holds and returns -/
theorem xYes {gc : Ev Bool} {f g : Sf} {E E1 E2 : Env'} {d : PyData} (h : gc E = some (true, E1)) (k : f E1 = some (.rt d E2)) : sSeq (sIf gc f sNil) g E = some (.rt d E2) := xSeqR (xIfT h k)
theorem xBody {io : List Nat} {pad : Nat} {f : Sf} {E E0 E' os : Env'} {d : PyData} (hE : E ++ List.replicate pad B.u = E0) (h : f E0 = some (.rt d E')) (ho : outs io E' = os) : bodyFn io pad f E = some (d, os) := by
  unfold bodyFn; rw [hE, h]; subst ho; rfl
theorem eSeq {f g : Sf} {E : Env'} {I : Env' → Prop} {Q : O → Prop} (h : ∃ E1, f E = some (.nx E1) ∧ I E1) (k : ∀ E1, I E1 → ∃ o, g E1 = some o ∧ Q o) : ∃ o, sSeq f g E = some o ∧ Q o := by
  obtain ⟨E1, h1, h2⟩ := h
  obtain ⟨o, h3, h4⟩ := k E1 h2
  exact ⟨o, xSeq h1 h3, h4⟩
theorem eNx {f : Sf} {E : Env'} {I : Env' → Prop} (h : ∃ o, f E = some o ∧ ∃ E', o = .nx E' ∧ I E') : ∃ E', f E = some (.nx E') ∧ I E' := by
  obtain ⟨o, h1, E', rfl, h2⟩ := h
  exact ⟨E', h1, h2⟩
theorem eFor {fl : Lf} {τ : Tf} {body : Sf} {E E1 : Env'} {ds : List PyData} (I : Nat → Env' → Prop) (hl : fl E = some (ds, E1)) (h0 : I ds.length E1) (hs : ∀ d ∈ ds, ∀ n E, I (n + 1) E → ∃ as E', τ d = some as ∧ body (setE E as) = some (.nx E') ∧ I n E') : ∃ E', sFor fl τ body E = some (.nx E') ∧ I 0 E' := by
  obtain ⟨E', h1, h2⟩ := forL_inv I (ds := ds) (E := E1) h0 hs
  refine ⟨E', ?_, h2⟩
  unfold sFor
  rw [hl]
  exact h1
theorem eBody {io : List Nat} {pad : Nat} {f : Sf} {E E0 : Env'} {d : PyData} (hE : E ++ List.replicate pad B.u = E0) (h : ∃ o, f E0 = some o ∧ ∃ E', o = .rt d E') : ∃ E', bodyFn io pad f E = some (d, E') := by
  obtain ⟨o, h1, E', rfl⟩ := h
  exact ⟨_, xBody hE h1 rfl⟩
theorem mem_rng {d : PyData} {n : Nat} (h : d ∈ rngD 0 n) : ∃ i : Nat, i < n ∧ d = .int i := by
  unfold rngD at h
  obtain ⟨i, hi, rfl⟩ := List.mem_map.mp h
  exact ⟨i, List.mem_range.mp hi, by rw [Int.zero_add]⟩
theorem fLc_pure {vs : List Nat} {fl : Lf} {τ : Tf} {fe : Ef} {E E1 Ew E3 : Env'} {ds : List PyData} (g : PyData → PyData) (hl : fl E = some (ds, E1)) (ho : vs.any (fun i => isOwn E1[i]?) = false) (hw : wipeE E1 vs = Ew) (hb : backE E1 Ew vs = E3)
    (h : ∀ d ∈ ds, ∃ as E2, τ d = some as ∧ fe (setE Ew as) = some (g d, E2) ∧ wipeE E2 vs = Ew) : fLc vs fl τ gYes fe E = some (ds.map g, E3) := by
  unfold fLc
  rw [hl]
  show (if (vs.any fun i => isOwn E1[i]?) = true then none else (lcL vs τ gYes fe ds (wipeE E1 vs)).map fun t => (t.1, backE E1 t.2 vs)) = _
  rw [ho, hw, lcL_pure g h]
  show some (ds.map g, backE E1 Ew vs) = _
  rw [hb]
end DL

namespace DL
open PySem PySem.Spec PyProof.Rows L2
section
variable {X : Cx} {K : PySem.W.Frag} {io : List Nat} {a b c o e : Expr} {es : List Expr} {fa fb fc fo : Ef} {fr : Af} {ga gb : Ev Bool} {pos apos cpos : Pos} {name : Str}
/-! ### a < b < c -/
theorem td_chain {r r' : R2} {g g' : PyData → PyData → Option PyData} (hr : RS X.K r g) (hr' : RS X.K r' g') {σ : L2.St} {H : Hp} {Q : VK} (w : tD X.K io (fChain g g' fa fb fc) σ H Q) : tChain r r' (tD X.K io fa) (tD X.K io fb) (tD X.K io fc) σ H Q := by
  show tD X.K io fa σ H fun x H1 => tD X.K io fb σ H1 fun y H2 => r x y H2 fun z H3 => ∃ k, z = .bl k ∧ (if k = true then tD X.K io fc σ H3 fun w' H4 => r' y w' H4 Q else Q (.bl false) H3)
  refine rd_then (f := fa) (g := fun x E1 => (fb E1).bind fun s => ((g x s.1).bind asB).bind fun k => if k then (fc s.2).bind fun t => (g' s.1 t.1).map fun z => (z, t.2) else some (.bool false, s.2)) (fun _ => rfl) w fun Γ ad E x vx H1 y E1 E2 h1 h2 ok1 fr1 sim1 r1 k => ?_
  obtain ⟨⟨y', E3⟩, h3, h4⟩ := Option.bind_eq_some_iff.mp h2
  refine ⟨Γ, ad, E1, y', E3, ok1, h3, fun vy H2 fr2 ok2 sim2 r2 => ?_⟩
  obtain ⟨kb, h5, h6⟩ := Option.bind_eq_some_iff.mp h4
  obtain ⟨z, h7, h8⟩ := Option.bind_eq_some_iff.mp h5
  have e1 : RepD X.K H2 (Ao Γ io ad E1) x vx := (Go.frm fr2 ok1.wa).rep x vx (by rw [sim1.Ao]; exact r1)
  refine hr H2 (Ao Γ io ad E1) x y' z vx vy _ (by rw [← sim2.Ao]; exact ok2.on) (.d e1) (.d r2) h7 fun v H3 fr3 r3 => ?_
  cases z with
  | bool b =>
    cases h8
    refine ⟨kb, r3, ?_⟩
    have ok3 := ok2.new fr3
    cases kb with
    | false =>
      cases h6
      rw [if_neg Bool.false_ne_true]
      exact k _ H3 (fr2.trans' fr3.of0) ok3 sim2 (by unfold RepD; rfl)
    | true =>
      rw [if_pos rfl]
      obtain ⟨⟨t, E4⟩, h9, h10⟩ := Option.bind_eq_some_iff.mp h6
      obtain ⟨z', hz, e⟩ := Option.map_eq_some_iff.mp h10
      cases e
      refine ⟨Γ, ad, E3, t, E4, ok3, h9, fun vt H4 fr4 ok4 sim4 r4 => ?_⟩
      have e2 : RepD X.K H4 (Ao Γ io ad E3) y' vy := (Go.frm fr4 ok3.wa).rep y' vy ((Go.frm0 fr3).rep y' vy (by rw [sim2.Ao]; exact r2))
      refine hr' H4 (Ao Γ io ad E3) y' t y vy vt Q (by rw [← sim4.Ao]; exact ok4.on) (.d e2) (.d r4) hz fun v' H5 fr5 r5 => ?_
      have f24 : Frm (Wo Γ io ad E1) H3 H4 := by rw [sim2.Wo] at fr4; exact fr4
      exact k v' H5 ((fr2.trans' fr3.of0).trans' (f24.trans' fr5.of0)) (ok4.new fr5) (sim2.trans sim4) (by rw [sim2.Ao] at r5; exact r5)
  | _ => cases h8
theorem de_chain {op op' : CmpOp} {r r' : R2} {g g' : PyData → PyData → Option PyData} (ho : OpR X (compareOp op) r) (hr : RS X.K r g) (ho' : OpR X (compareOp op') r') (hr' : RS X.K r' g') (ha : PE X a (tD X.K io fa)) (hb : PE X b (tD X.K io fb)) (hc : PE X c (tD X.K io fc))
    (hm : lastMarks [op, op'] [b, c] = false := by with_unfolding_all rfl) : PE X (.Compare a [op, op'] [b, c] pos) (tD X.K io (fChain g g' fa fb fc)) := (pe_chain ho ho' ha hb hc hm).imp fun _ _ _ => td_chain hr hr'
theorem dt_chain {op op' : CmpOp} {r r' : R2} {g g' : PyData → PyData → Option PyData} (ho : OpR X (compareOp op) r) (hr : RS X.K r g) (ho' : OpR X (compareOp op') r') (hr' : RS X.K r' g') (ha : PE X a (tD X.K io fa)) (hb : PE X b (tD X.K io fb)) (hc : PE X c (tD X.K io fc))
    (hm : lastMarks [op, op'] [b, c] = false := by with_unfolding_all rfl) : PT X (.Compare a [op, op'] [b, c] pos) (cD X.K io (f1 asB (fChain g g' fa fb fc))) := (pt_chain ho ho' ha hb hc hm).imp fun _ _ _ => dt_of fun _ _ _ => td_chain hr hr'
/-! ### methods of texts -/
def MS (K : PySem.W.Frag) (r : V → List V → Hp → VK → Prop) (g : List PyData → Option PyData) : Prop := (∀ d ds z, g (d :: ds) = some z → isStr d = true) ∧
  ∀ (H : Hp) (A : Addr → Prop) (s : Str) (ds : List PyData) (z : PyData) (vs : List V) (Q : VK), (∀ a, A a → H a ≠ none) → RepSL K H A ds vs → g (.str s :: ds) = some z → (∀ v H', Frm F0 H H' → RepD K H' A z v → Q v H') → r (.str s) vs H Q
theorem tdM {r : V → List V → Hp → VK → Prop} {g : List PyData → Option PyData} (hr : MS X.K r g) {σ : L2.St} {H : Hp} {Q : VK} (w : tD X.K io (fB g (aV fo fr)) σ H Q) : tBM X.K "str" r (tD X.K io fo) (aD X.K io fr) σ H Q := by
  obtain ⟨Γ, ad, E, z, E', ok, he, q⟩ := w
  obtain ⟨⟨gs, E2⟩, h1, h2⟩ := Option.bind_eq_some_iff.mp he
  obtain ⟨⟨d, E1⟩, h3, h4⟩ := Option.bind_eq_some_iff.mp h1
  obtain ⟨⟨gs', E2'⟩, h5, h6⟩ := Option.map_eq_some_iff.mp h4
  cases h6
  obtain ⟨ds0, h7, h8⟩ := Option.bind_eq_some_iff.mp h2
  obtain ⟨z', hz, e⟩ := Option.map_eq_some_iff.mp h8
  cases e
  have h7' : (resAll E2' gs').map (fun ds => d :: ds) = some ds0 := h7
  obtain ⟨ds, h9, e⟩ := Option.map_eq_some_iff.mp h7'
  subst e
  have hd := hr.1 _ _ _ hz
  refine ⟨Γ, ad, E, d, E1, ok, h3, fun v H1 fr1 ok1 sim1 r1 => ?_⟩
  cases d with
  | str s =>
    obtain ⟨e1, _⟩ : v = .str s ∧ True := ⟨by unfold RepD at r1; exact r1.1, trivial⟩
    subst e1
    refine ⟨rfl, Γ, ad, E1, gs', E2', ok1, h5, fun vs H2 fr2 ok2 sim2 r2 => ?_⟩
    refine hr.2 H2 _ s ds z vs Q ok2.on (res_rep ok2 h9 (by rw [sim2.Ao]; exact r2)) hz fun v' H3 fr3 r3 => ?_
    rw [sim1.Wo] at fr2
    refine q v' H3 ((fr1.trans' fr2).trans' fr3.of0) (ok2.new fr3) (sim1.trans sim2) ?_
    rw [sim2.Ao, sim1.Ao] at r3
    exact r3
  | _ => cases hd
theorem de_bmS {id : String} {r : V → List V → Hp → VK → Prop} {g : List PyData → Option PyData} (pa : PlainAttrs "str") (slot : Slot "str" name id) (hty : typeOf (.builtin id) = pure (.type "method_descriptor")) (hm : MtR X id r) (hr : MS X.K r g) (ho : PE X o (tD X.K io fo)) (ha : PA X (e :: es) (aD X.K io fr))
    (hbase : attributeBase o name X.env (eval o X.env) = eval o X.env := by rfl)
    (hfew : ((backTo cpos (starEach (e :: es) X.env)).all (fun x => !x.1) && (backToKw cpos (keywordEach [] X.env)).all (fun x => x.1.isSome)
      && decide ((e :: es).length + ([] : List Keyword).length + (if ([] : List Keyword).isEmpty then 0 else 1) < 30)) = true := by rfl)
    (hline : (apos.endLine == cpos.line) = true := by rfl) (hs : starEach (e :: es) X.env = (false, eval e X.env) :: starEach es X.env := by rfl) (hplain : (backTo cpos (starEach es X.env)).any (·.1) = false := by rfl) :
    PE X (.Call (.Attribute o name apos) (e :: es) [] cpos) (tD X.K io (fB g (aV fo fr))) := (pe_bm pa slot hty hm ho ha hbase hfew hline hs hplain).imp fun _ _ _ => tdM hr
def allS : List PyData → Option (List Str)
  | [] => some []
  | .str s :: ds => (allS ds).map fun r => s :: r
  | _ => none
theorem allS_rep {H : Hp} {A : Addr → Prop} : ∀ {ds : List PyData} {ys : List Str} {vs : List V}, allS ds = some ys → RepL K H A ds vs → vs = ys.map V.str
  | [], ys, vs, h, r => by cases h; unfold RepL at r; exact r
  | d :: ds, ys, vs, h, r => by
    unfold RepL at r
    obtain ⟨v, r', e, r1, r2⟩ := r
    cases d with
    | str s =>
      obtain ⟨ys', h1, h2⟩ := Option.map_eq_some_iff.mp h
      subst h2 e
      unfold RepD at r1
      rw [r1.1, allS_rep h1 r2]
      rfl
    | _ => cases h
def joinG (a : Str) (xs : List PyData) : Option PyData := (allS xs).bind fun ys => if (ys.map (·.length)).sum + ys.length * a.length ≤ 16777216 ∧ (Txt.join a ys).length ≤ sizeLine then some (.str (Txt.join a ys)) else none
def oJoin : List PyData → Option PyData
  | [.str a, .list xs] => joinG a xs
  | [.str a, .tuple xs] => joinG a xs
  | _ => none
theorem join_one {H : Hp} {A : Addr → Prop} {a : Str} {xs : List PyData} {vs : List V} {z : PyData} (r : RepL K H A xs vs) (hz : joinG a xs = some z) : ∃ ys : List Str, vs = ys.map V.str ∧ (ys.map (·.length)).sum + ys.length * a.length ≤ 16777216 ∧ z = .str (Txt.join a ys) ∧ (Txt.join a ys).length ≤ sizeLine := by
  obtain ⟨ys, h1, h2⟩ := Option.bind_eq_some_iff.mp hz
  split at h2
  · rename_i hc
    cases h2
    exact ⟨ys, allS_rep h1 r, hc.1, rfl, hc.2⟩
  · cases h2
theorem ms_join : MS K (fun x xs H Q => ∃ a p, ∃ ys : List Str, x = .str a ∧ xs = [.ref p] ∧ (SqL K H p (ys.map V.str) ∨ SqT K H p (ys.map V.str)) ∧ (ys.map (·.length)).sum + ys.length * a.length ≤ 16777216 ∧ Q (.str (Txt.join a ys)) H) oJoin := by
  refine ⟨fun d ds z h => ?_, fun H A s ds z vs Q hA rs hz k => ?_⟩
  · unfold oJoin at h
    split at h
    · rename_i e; cases e; rfl
    · rename_i e; cases e; rfl
    · cases h
  · unfold oJoin at hz
    split at hz
    · rename_i e
      cases e
      obtain ⟨v, e, r⟩ := rs.one
      obtain ⟨l, ws, e2, t, hl, r'⟩ := r.lst
      subst e e2
      obtain ⟨ys, e3, q1, e4, q2⟩ := join_one r' hz
      subst e3 e4
      exact ⟨_, _, ys, rfl, rfl, .inl (.inl t), q1, k _ _ Frm.refl (by unfold RepD; exact ⟨rfl, q2⟩)⟩
    · rename_i e
      cases e
      obtain ⟨v, e, r⟩ := rs.one
      obtain ⟨l, ws, e2, t, hl, r'⟩ := r.tup
      subst e e2
      obtain ⟨ys, e3, q1, e4, q2⟩ := join_one r' hz
      subst e3 e4
      exact ⟨_, _, ys, rfl, rfl, .inr t.sq, q1, k _ _ Frm.refl (by unfold RepD; exact ⟨rfl, q2⟩)⟩
    · cases hz
end
end DL

namespace DL
open PySem PySem.Spec PyProof.Rows L2
section
variable {X : Cx} {io : List Nat} {e : Expr} {es : List Expr} {fr : Af} {fa : Ef} {fl : Lf} {pos : Pos}
theorem sp_core {K : PySem.W.Frag} {n : Nat} {io' : List Nat} {fn : Fn} {EX : XK} {σ : L2.St} {H : Hp} {Q : VK} {Γ : Gm} {ad : Nat → Addr} {E0 : Env'} {d : PyData} {E' : Env'} (ok0 : EOk K Γ io ad σ H E0)
    (q : ∀ v H', Frm (Wo Γ io ad E0) H H' → EOk K Γ io ad σ H' E' → Sim E0 E' → RepD K H' (Ao Γ io ad E0) d v → Q v H') {gs : List G} {E1 : Env'} (hn : gs.length = n)
    (h2 : (if (slotsG gs 0).map (·.1) = io' ∧ ((slotsG gs 0).map (·.2)).Nodup then (argB E1 gs).bind fun bs => (fn bs).bind fun s => (putB E1 ((slotsG gs 0).map (·.2)) s.2).map fun E' => (s.1, E') else none) = some (d, E'))
    {vs : List V} {H1 : Hp} (fr1 : Frm (Wo Γ io ad E0) H H1) (ok1 : EOk K Γ io ad σ H1 E1) (sim1 : Sim E0 E1) (rg : RepG ad K H1 (Ao Γ io ad E0) gs vs) : spF K n io' fn (vs ++ []) H1 Q EX := by
  split at h2
  rotate_left
  · cases h2
  rename_i hc
  obtain ⟨hio, hnd⟩ := hc
  obtain ⟨bs, h3, h4⟩ := Option.bind_eq_some_iff.mp h2
  obtain ⟨⟨r, os⟩, h5, h6⟩ := Option.bind_eq_some_iff.mp h4
  obtain ⟨E2, h7, h8⟩ := Option.map_eq_some_iff.mp h6
  cases h8
  rw [List.append_nil]
  let sl := slotsG gs 0
  -- the callee's addresses
  let ad' : Nat → Addr := fun k => match gs[k]? with
    | some (.s i) => ad i
    | _ => 0
  have ad'_s : ∀ {k i : Nat}, gs[k]? = some (.s i) → ad' k = ad i := fun {k i} h => by show (match gs[k]? with | some (.s i) => ad i | _ => 0) = _; rw [h]
  let Γ' : Gm := ⟨Ao Γ io ad E0, fun a => ∃ k i, (k, i) ∈ sl ∧ a = ad i, H1⟩
  have aE : Ao Γ io ad E1 = Ao Γ io ad E0 := sim1.Ao
  have isO : ∀ {k i : Nat}, gs[k]? = some (.s i) → ∃ m, E1[i]? = some (B.o m) := by
    have : ∀ {gs : List G} {bs : Env'} {k i : Nat}, argB E1 gs = some bs → gs[k]? = some (.s i) → ∃ m, E1[i]? = some (B.o m) := by
      intro gs
      induction gs with
      | nil => intro bs k i _ e; simp at e
      | cons g gs ih =>
        intro bs k i h e
        cases g with
        | v d =>
          obtain ⟨bs', z1, z2⟩ := Option.map_eq_some_iff.mp h
          cases k with
          | zero => simp at e
          | succ k => exact ih z1 (by simpa using e)
        | s j =>
          unfold argB at h
          split at h
          · rename_i m hm
            obtain ⟨bs', z1, z2⟩ := Option.map_eq_some_iff.mp h
            cases k with
            | zero => simp at e; subst e; exact ⟨m, hm⟩
            | succ k => exact ih z1 (by simpa using e)
          · cases h
    exact fun {k i} h => this h3 h
  have inIo : ∀ {k i : Nat}, gs[k]? = some (.s i) → k ∈ io' := fun {k i} h => by
    rw [← hio]
    exact List.mem_map.mpr ⟨(k, i), slots_mem.mpr ⟨Nat.zero_le _, h⟩, rfl⟩
  have slotInj : ∀ {k k' i : Nat}, gs[k]? = some (.s i) → gs[k']? = some (.s i) → k = k' := by
    intro k k' i h h'
    have a1 : (k, i) ∈ sl := slots_mem.mpr ⟨Nat.zero_le _, h⟩
    have a2 : (k', i) ∈ sl := slots_mem.mpr ⟨Nat.zero_le _, h'⟩
    obtain ⟨n1, l1, e1⟩ := List.getElem_of_mem a1
    obtain ⟨n2, l2, e2⟩ := List.getElem_of_mem a2
    have hl : (sl.map (·.2)).length = sl.length := List.length_map _
    have : n1 = n2 := by
      refine (List.getElem_inj (h₀ := by rw [hl]; exact l1) (h₁ := by rw [hl]; exact l2) hnd).mp ?_
      rw [List.getElem_map, List.getElem_map, e1, e2]
    subst this
    rw [e1] at e2
    exact (Prod.mk.inj e2).1
  have noOwn : ∀ a, ¬ Own io' ad' bs a := fun a ⟨k, m, z1, z2, _⟩ => by
    obtain ⟨i, z3, _⟩ := argB_o h3 z2
    exact z1 (inIo z3)
  have aE' : ∀ a, Ao Γ' io' ad' bs a → Ao Γ io ad E0 a := fun a h => h.elim id fun z => absurd z (noOwn a)
  have len : vs.length = bs.length := by rw [repG_len rg, argB_len h3]
  refine ⟨Γ', ad', bs, _, os, ⟨by rw [List.length_map]; exact len, fun a h => ?_, fun a h => ?_, fun a h => h, fun k d z => ?_, fun k m z => ?_, fun k m z hk => ?_, fun k m z hk => ?_, fun k k' m m' z z' hz => ?_⟩, ?_, fun k m z => ?_, h5, fun v H2 fr2 objs rd => ?_⟩
  · obtain ⟨k, i, z1, z2⟩ := h
    obtain ⟨m, z3⟩ := isO (by simpa using (slots_mem.mp z1).2)
    show Ao Γ io ad E0 a
    rw [z2, ← aE]
    exact ok1.wa _ (ok1.wo z3)
  · exact ok1.on a (by rw [aE]; exact h)
  · obtain ⟨v, q1, q2⟩ := repG_v rg (argB_v h3 z)
    exact ⟨v, by rw [List.getElem?_map, q1] <;> rfl, (Go.less aE').rep d v q2⟩
  · obtain ⟨i, z1, z2⟩ := argB_o h3 z
    refine ⟨by rw [List.getElem?_map, repG_s rg z1, ad'_s z1] <;> rfl, ?_⟩
    rw [ad'_s z1]
    obtain ⟨_, z3⟩ := ok1.ob i m z2
    cases m with
    | lst xs => obtain ⟨ws, y0, y1, y2⟩ := z3; exact ⟨ws, y0, y1, (Go.less fun a h => by rw [aE]; exact aE' a h).repL xs ws y2⟩
  · obtain ⟨i, z1, z2⟩ := argB_o h3 z
    exact ⟨k, i, slots_mem.mpr ⟨Nat.zero_le _, z1⟩, ad'_s z1⟩
  · obtain ⟨i, z1, z2⟩ := argB_o h3 z
    exact absurd (inIo z1) hk
  · obtain ⟨i, z1, z2⟩ := argB_o h3 z
    obtain ⟨i', z1', z2'⟩ := argB_o h3 z'
    rw [ad'_s z1, ad'_s z1'] at hz
    have := ok1.inj i i' m m' z2 z2' hz
    subst this
    exact slotInj z1 z1'
  · rw [argB_len h3]; exact hn
  · obtain ⟨i, z1, z2⟩ := argB_o h3 z
    exact inIo z1
  · -- behind the call
    obtain ⟨sim2, out2, at2⟩ := putB_spec hnd (fun i hi => by
      obtain ⟨⟨k, i'⟩, z1, z2⟩ := List.mem_map.mp hi
      have z2 : i' = i := z2
      subst z2
      exact isO (by simpa using (slots_mem.mp z1).2)) h7
    have wsub : ∀ a, Γ'.W a → Wo Γ io ad E1 a := fun a ⟨k, i, z1, z2⟩ => by
      obtain ⟨m, z3⟩ := isO (by simpa using (slots_mem.mp z1).2)
      rw [z2]
      exact ok1.wo z3
    have fr2' : Frm (Wo Γ io ad E1) H1 H2 := ⟨fun a o h n => fr2.eq a o h fun z => n (wsub a z), fr2.on⟩
    have g : Go H1 (Ao Γ io ad E1) H2 (Ao Γ io ad E1) := Go.frm fr2' ok1.wa
    have aE2 := fun Γ => sim2.Ao (Γ := Γ) (io := io) (ad := ad)
    have eio : io' = sl.map (·.1) := hio.symm
    refine q v H2 (fr1.trans' (by rw [sim1.Wo] at fr2'; exact fr2')) ?_ (sim1.trans sim2) rd
    refine ⟨by rw [ok1.len, sim2.1], ok1.w, fun a h => fr2.on a (ok1.oA a h), fun a h => fr2.on a (ok1.hk a h), fun i d z => ?_, fun i m z => ?_, fun i m z hi => ?_, fun i m z hi => ?_, fun i j m m' z1 z2 => ?_⟩
    · rcases sim2.2 i with ⟨m1, m2, y1, y2⟩ | ⟨y1, y2⟩
      · rw [y2] at z; cases z
      · rw [y2] at z
        obtain ⟨u, x1, x2⟩ := ok1.vl i d z
        exact ⟨u, x1, by rw [aE2 Γ]; exact g.rep d u x2⟩
    · obtain ⟨m0, hm0⟩ := sim2.own.mp ⟨m, z⟩
      refine ⟨(ok1.ob i m0 hm0).1, ?_⟩
      rw [aE2 Γ]
      by_cases hi : i ∈ sl.map (·.2)
      · obtain ⟨⟨k, i'⟩, z1, z2⟩ := List.mem_map.mp hi
        have z2 : i' = i := z2
        subst z2
        obtain ⟨n, hn, en⟩ := List.getElem_of_mem z1
        have e1 : (sl.map (·.2))[n]? = some i' := by rw [List.getElem?_map, List.getElem?_eq_getElem hn, en] <;> rfl
        have e2 : io'[n]? = some k := by rw [eio, List.getElem?_map, List.getElem?_eq_getElem hn, en] <;> rfl
        obtain ⟨m3, e3, e4⟩ := at2 n i' e1
        rw [e4] at z
        cases z
        have o := objs n k m e2 e3
        rw [ad'_s (by simpa using (slots_mem.mp z1).2)] at o
        have o' : ObjD K H2 (Ao Γ io ad E0) (ad i') m := o
        rw [aE]
        exact o'
      · rw [out2 i hi] at z
        obtain ⟨_, z3⟩ := ok1.ob i m z
        have nw : ¬ Γ'.W (ad i) := fun ⟨k, j, z1, z2⟩ => by
          obtain ⟨m4, z4⟩ := isO (by simpa using (slots_mem.mp z1).2)
          have e := ok1.inj i j m m4 z z4 z2
          exact hi (List.mem_map.mpr ⟨(k, j), z1, e.symm⟩)
        cases m with
        | lst xs => obtain ⟨ws, y0, y1, y2⟩ := z3; exact ⟨ws, fr2.eq _ _ y0 nw, y1, g.repL xs ws y2⟩
    · obtain ⟨m0, hm0⟩ := sim2.own.mp ⟨m, z⟩; exact ok1.obi i m0 hm0 hi
    · obtain ⟨m0, hm0⟩ := sim2.own.mp ⟨m, z⟩; exact ok1.obn i m0 hm0 hi
    · obtain ⟨m3, z3⟩ := sim2.own.mp ⟨m, z1⟩
      obtain ⟨m4, z4⟩ := sim2.own.mp ⟨m', z2⟩
      exact ok1.inj i j m3 m4 z3 z4
def bD (K : PySem.W.Frag) (io : List Nat) (fr : Af) (fl : Lf) : TA := fun σ H Q => ∃ Γ ad E gs E1 ds E2, EOk K Γ io ad σ H E ∧ fr E = some (gs, E1) ∧ fl E1 = some (ds, E2) ∧ ∀ vs p ws H', Frm (Wo Γ io ad E) H H' → H p = none → H' p = some (.lst ws) → ws.length ≤ sizeLine →
  EOk K (Γ.with p) io ad σ H' E2 → RepL K H' (Ao (Γ.with p) io ad E2) ds ws → Sim E E2 → RepG ad K H' (Ao (Γ.with p) io ad E) gs vs → Q (vs ++ [.ref p]) H'
theorem db_l (he : PE X e (lD X.K io fl)) (hs : starEach [e] X.env = (false, eval e X.env) :: starEach [] X.env := by rfl) : PA X [e] (bD X.K io aNil fl) := (pa_cons he pa_nil hs).imp fun σ H Q w => by
  obtain ⟨Γ, ad, E, gs, E1, ds, E2, ok, h1, h2, q⟩ := w
  cases h1
  exact ⟨Γ, ad, E, ds, E2, ok, h2, fun p vs H' fr hp hl hz ok' r sim => q [] p vs H' fr hp hl hz ok' r sim (by unfold RepG; rfl)⟩
theorem db_v (he : PE X e (tD X.K io fa)) (hr : PA X es (bD X.K io fr fl)) (hs : starEach (e :: es) X.env = (false, eval e X.env) :: starEach es X.env := by rfl) : PA X (e :: es) (bD X.K io (aV fa fr) fl) := (pa_cons he hr hs).imp fun σ H Q w => by
  obtain ⟨Γ, ad, E, gs0, E1', ds, E2, ok, h1, h2, q⟩ := w
  obtain ⟨⟨d, Ea⟩, h3, h4⟩ := Option.bind_eq_some_iff.mp h1
  obtain ⟨⟨gs, E1⟩, h5, h6⟩ := Option.map_eq_some_iff.mp h4
  cases h6
  refine ⟨Γ, ad, E, d, Ea, ok, h3, fun v H1 fr1 ok1 sim1 r1 => ⟨Γ, ad, Ea, gs, _, ds, E2, ok1, h5, h2, fun vs p ws H2 fr2 hp hl hz ok2 r sim2 rg => ?_⟩⟩
  rw [← sim1.Ao] at r1
  have g : Go H1 (Ao Γ io ad Ea) H2 (Ao (Γ.with p) io ad Ea) := ⟨fun a o h n => fr2.eq a o h fun z => n (ok1.wa a z), fun a z => by
    rcases z with (z | z) | z
    · exact .inl (.inl z)
    · subst z; exact .inr hp
    · exact .inl (.inr z)⟩
  have r1' := g.rep d v r1
  rw [sim1.Ao] at r1' rg
  rw [sim1.Wo] at fr2
  exact q (v :: vs) p ws H2 (fr1.trans' fr2) (frm_none fr1 hp) hl hz ok2 r (sim1.trans sim2) ⟨v, vs, rfl, r1', rg⟩
theorem db_s {i : Nat} (he : PE X e (tVar i)) (hr : PA X es (bD X.K io fr fl)) (hs : starEach (e :: es) X.env = (false, eval e X.env) :: starEach es X.env := by rfl) : PA X (e :: es) (bD X.K io (aS i fr) fl) := (pa_cons he hr hs).imp fun σ H Q w => by
  obtain ⟨Γ, ad, E, gs0, E1', ds, E2, ok, h1, h2, q⟩ := w
  unfold aS at h1
  split at h1
  · rename_i m hd
    obtain ⟨⟨gs, E1⟩, h5, h6⟩ := Option.map_eq_some_iff.mp h1
    cases h6
    exact ⟨_, (ok.ob i m hd).1, Γ, ad, E, gs, _, ds, E2, ok, h5, h2, fun vs p ws H2 fr2 hp hl hz ok2 r sim2 rg => q (.ref (ad i) :: vs) p ws H2 fr2 hp hl hz ok2 r sim2 ⟨vs, rfl, rg⟩⟩
  · cases h1
def slotLt (N : Nat) (gs : List G) : Bool := gs.all fun g => match g with
  | .s i => decide (i < N)
  | .v _ => true
def fCallT (io io' : List Nat) (fn : Fn) (fr : Af) (fl : Lf) : Ef := fun E => (fr E).bind fun r => (fl r.2).bind fun s => if s.2.length ∈ io ∨ slotLt s.2.length r.1 = false then none else (fCall io' fn (fun E' => some (r.1 ++ [.s s.2.length], E')) (s.2 ++ [B.o (.lst s.1)])).map fun t => (t.1, t.2.take s.2.length)
theorem repG_snoc {ad ad' : Nat → Addr} {K : PySem.W.Frag} {H : Hp} {A A' : Addr → Prop} {N : Nat} {p : Addr} (h1 : ∀ j, j < N → ad' j = ad j) (h2 : ad' N = p) (hA : ∀ d v, RepD K H A d v → RepD K H A' d v) : ∀ {gs : List G} {vs : List V}, (∀ j, G.s j ∈ gs → j < N) → RepG ad K H A gs vs → RepG ad' K H A' (gs ++ [.s N]) (vs ++ [.ref p])
  | [], vs, _, h => by
    unfold RepG at h
    subst h
    exact ⟨[], by rw [h2] <;> rfl, rfl⟩
  | .v d :: gs, vs, hj, h => by
    obtain ⟨v, r, e, q1, q2⟩ := h
    subst e
    exact ⟨v, _, rfl, hA d v q1, repG_snoc h1 h2 hA (fun j hh => hj j (List.mem_cons_of_mem _ hh)) q2⟩
  | .s i :: gs, vs, hj, h => by
    obtain ⟨r, e, q2⟩ := h
    subst e
    exact ⟨_, by rw [h1 i (hj i List.mem_cons_self)] <;> rfl, repG_snoc h1 h2 hA (fun j hh => hj j (List.mem_cons_of_mem _ hh)) q2⟩
theorem sp_callT {K : PySem.W.Frag} {n : Nat} {io' : List Nat} {fn : Fn} {EX : XK} (hn : ALen fr n) {σ : L2.St} {H : Hp} {Q : VK} (w : tD K io (fCallT io io' fn fr fl) σ H Q) : bD K io fr fl σ H fun vs H1 => spF K (n + 1) io' fn (vs ++ []) H1 Q EX := by
  obtain ⟨Γ, ad, E, d, E', ok, he, q⟩ := w
  obtain ⟨⟨gs, E1⟩, h1, h2⟩ := Option.bind_eq_some_iff.mp he
  obtain ⟨⟨ds, E2⟩, h3, h4⟩ := Option.bind_eq_some_iff.mp h2
  simp only at h4
  split at h4
  · cases h4
  rename_i hN'
  have hN : E2.length ∉ io := fun z => hN' (.inl z)
  have hS : slotLt E2.length gs = true := by
    cases hh : slotLt E2.length gs with
    | true => rfl
    | false => exact absurd (.inr hh) hN'
  obtain ⟨⟨d', E3⟩, h5, h6⟩ := Option.map_eq_some_iff.mp h4
  cases h6
  refine ⟨Γ, ad, E, gs, E1, ds, E2, ok, h1, h3, fun vs p ws H' fr hp hl hz ok' r sim rg => ?_⟩
  let ad' : Nat → Addr := fun j => if j = E2.length then p else ad j
  have adN : ad' E2.length = p := if_pos rfl
  have adj : ∀ j, j ≠ E2.length → ad' j = ad j := fun j h => if_neg h
  let Ex : Env' := E2 ++ [B.o (.lst ds)]
  have exl : ∀ (j : Nat) (b : B), Ex[j]? = some b → (j < E2.length ∧ E2[j]? = some b) ∨ (j = E2.length ∧ b = B.o (.lst ds)) := fun j b z => by
    by_cases c : j < E2.length
    · rw [List.getElem?_append_left c] at z; exact .inl ⟨c, z⟩
    · rw [List.getElem?_append_right (by omega)] at z
      by_cases c2 : j = E2.length
      · subst c2; rw [Nat.sub_self] at z; cases z; exact .inr ⟨rfl, rfl⟩
      · rw [show j - E2.length = (j - E2.length - 1) + 1 by omega] at z; simp at z
  have exN : Ex[E2.length]? = some (B.o (.lst ds)) := by
    rw [List.getElem?_append_right (Nat.le_refl _), Nat.sub_self] <;> rfl
  have exlt : ∀ (j : Nat) (b : B), E2[j]? = some b → Ex[j]? = some b := fun j b z => by
    rw [List.getElem?_append_left (List.getElem?_eq_some_iff.mp z).1]; exact z
  have own_lt : ∀ {E4 : Env'} {j : Nat} {m : M}, E4[j]? = some (B.o m) → j < E4.length := fun z => (List.getElem?_eq_some_iff.mp z).1
  have aEq : Ao Γ io ad' Ex = Ao (Γ.with p) io ad E2 := by
    funext a
    refine propext ⟨fun z => ?_, fun z => ?_⟩
    · rcases z with z | ⟨i, m, z1, z2, z3⟩
      · exact .inl (.inl z)
      · rcases exl i _ z2 with ⟨c, z4⟩ | ⟨c, _⟩
        · exact .inr ⟨i, m, z1, z4, by rw [z3, adj i (by omega)]⟩
        · subst c; exact .inl (.inr (by rw [z3, adN]))
    · rcases z with (z | z) | ⟨i, m, z1, z2, z3⟩
      · exact .inl z
      · exact .inr ⟨_, _, hN, exN, by rw [adN]; exact z⟩
      · have c := own_lt z2
        exact .inr ⟨i, m, z1, exlt i _ z2, by rw [adj i (by omega)]; exact z3⟩
  have npA : ¬ Γ.A p := fun z => ok.oA p z hp
  have okx : EOk K Γ io ad' (σ ++ [some (.ref p)]) H' Ex := by
    refine ⟨by rw [List.length_append, List.length_append, ok'.len] <;> rfl, ok.w, fun a h => ok'.oA a (.inl h), ok'.hk, fun i d z => ?_, fun i m z => ?_, fun i m z hi => ?_, fun i m z hi => ?_, fun i j m m' z1 z2 e => ?_⟩
    · rcases exl i _ z with ⟨c, z⟩ | ⟨_, z⟩
      · obtain ⟨v, q1, q2⟩ := ok'.vl i d z
        exact ⟨v, by rw [List.getElem?_append_left (by rw [ok'.len]; exact c)]; exact q1, by rw [aEq]; exact q2⟩
      · cases z
    · rcases exl i _ z with ⟨c, z⟩ | ⟨c, z⟩
      · obtain ⟨q1, q2⟩ := ok'.ob i m z
        rw [adj i (by omega), aEq]
        exact ⟨by rw [List.getElem?_append_left (by rw [ok'.len]; exact c)]; exact q1, q2⟩
      · cases z
        subst c
        rw [adN, aEq]
        exact ⟨by rw [List.getElem?_append_right (by rw [ok'.len] <;> exact Nat.le_refl _), ok'.len, Nat.sub_self] <;> rfl, ws, hl, hz, r⟩
    · rcases exl i _ z with ⟨c, z⟩ | ⟨c, _⟩
      · rw [adj i (by omega)]; exact ok'.obi i m z hi
      · subst c; exact absurd hi hN
    · rcases exl i _ z with ⟨c, z⟩ | ⟨c, _⟩
      · rw [adj i (by omega)]
        obtain ⟨q1, q2⟩ := ok'.obn i m z hi
        exact ⟨q1, fun y => q2 (.inl y)⟩
      · subst c
        rw [adN]
        refine ⟨?_, npA⟩
        cases qh : Γ.H p with
        | none => rfl
        | some o => exact absurd hp (ok.hk p (by rw [qh]; exact fun z => nomatch z))
    · have ne : ∀ (k : Nat) (m : M), E2[k]? = some (B.o m) → ad k ≠ p := fun k m z e => by
        by_cases hi : k ∈ io
        · exact ok.oA _ (ok.w _ (ok'.obi k m z hi)) (by rw [e]; exact hp)
        · exact (ok'.obn k m z hi).2 (.inr e)
      rcases exl i _ z1 with ⟨c1, z1⟩ | ⟨c1, _⟩
      · rcases exl j _ z2 with ⟨c2, z2⟩ | ⟨c2, _⟩
        · rw [adj i (by omega), adj j (by omega)] at e
          exact ok'.inj i j m m' z1 z2 e
        · subst c2
          rw [adN, adj i (by omega)] at e
          exact absurd e (ne i m z1)
      · rcases exl j _ z2 with ⟨c2, z2⟩ | ⟨c2, _⟩
        · subst c1
          rw [adN, adj j (by omega)] at e
          exact absurd e.symm (ne j m' z2)
        · omega
  have lE : E2.length = E.length := sim.1
  have wX : ∀ a, Wo Γ io ad' Ex a → Wo Γ io ad E a ∨ H a = none := fun a z => by
    rcases z with z | ⟨i, m, z1, z2, z3⟩
    · exact .inl (.inl z)
    · rcases exl i _ z2 with ⟨c, z4⟩ | ⟨c, _⟩
      · obtain ⟨m', z5⟩ := sim.own.mp ⟨m, z4⟩
        exact .inl (.inr ⟨i, m', z1, z5, by rw [z3, adj i (by omega)]⟩)
      · subst c; rw [adN] at z3; subst z3; exact .inr hp
  have aX : ∀ a, Ao Γ io ad E a → Ao Γ io ad' Ex a := fun a z => by
    rw [aEq]
    rw [← sim.Ao] at z
    exact z.elim (fun z => .inl (.inl z)) .inr
  have gsl : ∀ j, G.s j ∈ gs → j < E2.length := fun j hj => by
    have := List.all_eq_true.mp hS _ hj
    exact of_decide_eq_true this
  refine sp_core (io' := io') (fn := fn) (Γ := Γ) (ad := ad') (E0 := Ex) (E1 := Ex) (σ := σ ++ [some (.ref p)]) (H := H') (d := d') (E' := E3) okx (fun v H'' fr3 ok3 sim3 r3 => ?_) (gs := gs ++ [G.s E2.length]) (by rw [List.length_append, hn h1] <;> rfl) h5 Frm.refl okx (Sim.refl _) ?_
  · have l3 : E3.length = E2.length + 1 := by rw [sim3.1, List.length_append] <;> rfl
    have tk : ∀ (j : Nat) (b : B), (E3.take E2.length)[j]? = some b → j < E2.length ∧ E3[j]? = some b := fun j b z => by
      have c : j < (E3.take E2.length).length := (List.getElem?_eq_some_iff.mp z).1
      rw [List.length_take] at c
      rw [List.getElem?_take_of_lt (by omega)] at z
      exact ⟨by omega, z⟩
    have aT : ∀ a, Ao Γ io ad (E3.take E2.length) a → Ao Γ io ad' E3 a := fun a z => by
      rcases z with z | ⟨i, m, z1, z2, z3⟩
      · exact .inl z
      · obtain ⟨c, z2⟩ := tk i _ z2
        exact .inr ⟨i, m, z1, z2, by rw [adj i (by omega)]; exact z3⟩
    refine q v H'' (fr.trans fr3 wX) ⟨by rw [List.length_take, l3, Nat.min_eq_left (by omega)]; exact ok'.len, ok.w, ok3.oA, ok3.hk, fun i d z => ?_, fun i m z => ?_, fun i m z hi => ?_, fun i m z hi => ?_, fun i j m m' z1 z2 e => ?_⟩ ?_ ((Go.less aX).rep d' v r3)
    · obtain ⟨c, z⟩ := tk i _ z
      obtain ⟨u, q1, q2⟩ := ok3.vl i d z
      rw [List.getElem?_append_left (by rw [ok'.len]; exact c)] at q1
      exact ⟨u, q1, (Go.less aT).rep d u q2⟩
    · obtain ⟨c, z⟩ := tk i _ z
      obtain ⟨q1, q2⟩ := ok3.ob i m z
      rw [adj i (by omega)] at q1 q2
      rw [List.getElem?_append_left (by rw [ok'.len]; exact c)] at q1
      refine ⟨q1, ?_⟩
      cases m with
      | lst xs => obtain ⟨us, y0, y1, y2⟩ := q2; exact ⟨us, y0, y1, (Go.less aT).repL xs us y2⟩
    · obtain ⟨c, z⟩ := tk i _ z
      have := ok3.obi i m z hi
      rw [adj i (by omega)] at this
      exact this
    · obtain ⟨c, z⟩ := tk i _ z
      have := ok3.obn i m z hi
      rw [adj i (by omega)] at this
      exact this
    · obtain ⟨c1, z1⟩ := tk i _ z1
      obtain ⟨c2, z2⟩ := tk j _ z2
      exact ok3.inj i j m m' z1 z2 (by rw [adj i (by omega), adj j (by omega)]; exact e)
    · refine sim.trans ⟨by rw [List.length_take, l3, Nat.min_eq_left (by omega)], fun j => ?_⟩
      by_cases c : j < E2.length
      · have t1 : (E3.take E2.length)[j]? = E3[j]? := List.getElem?_take_of_lt c
        have t2 : Ex[j]? = E2[j]? := List.getElem?_append_left c
        have := sim3.2 j
        rw [t2] at this
        rw [t1]
        exact this
      · have t1 : (E3.take E2.length)[j]? = none := List.getElem?_eq_none (by rw [List.length_take]; omega)
        have t2 : E2[j]? = none := List.getElem?_eq_none (by omega)
        rw [t1, t2]
        exact .inr ⟨fun m z => (nomatch z), rfl⟩
  · exact repG_snoc (fun j h => adj j (by omega)) adN (fun d v r => by rw [aEq, sim.Ao]; exact r) gsl rg
theorem de_callT {k n : Nat} {f : Addr} {fd : FuncData} {ps : List Str} {io' : List Nat} {fn : Fn} {x : Str} {p : Pos} (F : FnG X.prog X.w X.K X.mg X.base CX0 k f fd ps (spF X.K (n + 1) io' fn)) (hr : RoomG k X.A) (hg : Gl X x) (hm : X.mg x = some (.ref f)) (hk : PySem.W.keepIn X.K (.ref f) = true) (hb : Binds X.K fd ps []) (ha : PA X (e :: es) (bD X.K io fr fl)) (hl : ALen fr n)
    (hdb : (x == ("__debug__" : Str)) = false := by decide) (he : starEach (e :: es) X.env = (false, eval e X.env) :: starEach es X.env := by rfl) (hpl : (backTo pos (starEach es X.env)).any (·.1) = false := by rfl) :
    PE X (.Call (.Name x p) (e :: es) [] pos) (tD X.K io (fCallT io io' fn fr fl)) := (pe_callG F hr hg hm hk hb pass0 ha hdb he hpl).imp fun σ H Q w => sp_callT hl w
end
end DL

namespace DL
open PySem PySem.Spec PyProof.Rows L2
section
variable {X : Cx} {K : PySem.W.Frag} {io : List Nat} {e e2 : Expr} {fr : Af} {pos tpos : Pos} {elts : List Expr} {kk : Nat}
theorem walk_zipT {a b : Addr} {xs ys : List V} {n : Nat} (hn : n = min xs.length ys.length) : Walk (RZ.ItzT K a b) n (fun H => SqT K H a xs ∧ SqT K H b ys) (YPair (fun i => xs[i]?) (fun i => ys[i]?)) := by
  subst hn
  refine ⟨fun i _ hi q => ?_, fun _ q => ⟨xs, ys, q.1, q.2, by omega⟩, fun i H v H' _ q y => ?_⟩
  · have h1 : i < xs.length := by omega
    have h2 : i < ys.length := by omega
    exact ⟨xs, ys, xs[i], ys[i], q.1, q.2, by simp [h1], by simp [h2]⟩
  · obtain ⟨T, x, y', h1, h2, h3, h4, h5⟩ := y
    exact ⟨T, x, y', h1, h2, h3, h4 xs q.1, h5 ys q.2⟩
def fZ {β : Type} (g : List PyData → Option β) (fr : Af) : Ev β := fun E => (fr E).bind fun r => (onlyV r.1).bind fun ds => (g ds).map fun z => (z, r.2)
def itZ : List PyData → Option (List PyData)
  | [.list xs, .list ys] => some (List.zipWith (fun x y => .tuple [x, y]) xs ys)
  | [.tuple xs, .tuple ys] => some (List.zipWith (fun x y => .tuple [x, y]) xs ys)
  | _ => none
theorem repL_two {H : Hp} {A : Addr → Prop} {d d2 : PyData} {vs : List V} (h : RepL K H A [d, d2] vs) : ∃ v u, vs = [v, u] ∧ RepD K H A d v ∧ RepD K H A d2 u := by
  unfold RepL at h
  obtain ⟨v, r, rfl, h1, h2⟩ := h
  unfold RepL at h2
  obtain ⟨u, r, rfl, h3, h4⟩ := h2
  unfold RepL at h4
  subst h4
  exact ⟨v, u, rfl, h1, h3⟩
theorem its_zip {H : Hp} {A : Addr → Prop} {xs ys : List PyData} {vs us : List V} {G : Hp → Prop} (hz : vs.length ≤ sizeLine) (r1 : RepL K H A xs vs) (r2 : RepL K H A ys us) (hG : ∀ H2 A2, Go H A H2 A2 → G H2) :
    Its' K H A (List.zipWith (fun x y => .tuple [x, y]) xs ys) G (YPair (fun i => vs[i]?) (fun i => us[i]?)) := by
  refine ⟨by rw [List.length_zipWith]; have := r1.length; omega, fun H2 A2 g hA => ⟨hG H2 A2 g, fun i x H3 d hd y => ?_⟩⟩
  obtain ⟨T, v, u, e1, e2, e3, e4, e5⟩ := y
  subst e1 e3
  rw [List.getElem?_zipWith] at hd
  cases q1 : xs[i]? with
  | none => rw [q1] at hd; cases hd
  | some dx => cases q2 : ys[i]? with
    | none => rw [q1, q2] at hd; cases hd
    | some dy =>
      rw [q1, q2] at hd
      cases hd
      obtain ⟨v', z1, z2⟩ := (g.repL _ _ r1).get q1
      obtain ⟨u', z3, z4⟩ := (g.repL _ _ r2).get q2
      have e4' : vs[i]? = some v := e4
      have e5' : us[i]? = some u := e5
      rw [e4'] at z1
      rw [e5'] at z3
      cases z1
      cases z3
      have f := Frm.new (H := H2) (p := T) (o := .tup [v, u]) e2
      have g2 : Go H2 A2 (upd H2 T (.tup [v, u])) A2 := Go.frm0 f
      exact ⟨f, rep_tup (.inl ⟨fun z => hA T z e2, .inl upd_same⟩) (show 2 ≤ sizeLine by decide) (repL_cons (g2.rep _ _ z2) (repL_cons (g2.rep _ _ z4) repL_nil))⟩
theorem di_zip {p : Pos} (hg : Gl X "zip") (hm : X.mg "zip" = none) (ha : PA X [e, e2] (aD X.K io fr))
    (hs : starEach [e, e2] X.env = (false, eval e X.env) :: starEach [e2] X.env := by rfl) (hpl : (backTo pos (starEach [e2] X.env)).any (·.1) = false := by rfl) :
    PI X (.Tuple elts kk tpos) (.Call (.Name "zip" p) [e, e2] [] pos) (iD X.K io (fZ itZ fr)) := (RZ.pi_zipA hg hm ha hs hpl).imp fun σ H R w => by
  obtain ⟨Γ, ad, E, zs, E', ok, he, q⟩ := w
  obtain ⟨⟨gs, E1⟩, h1, h2⟩ := Option.bind_eq_some_iff.mp he
  obtain ⟨ds, h3, h4⟩ := Option.bind_eq_some_iff.mp h2
  obtain ⟨z, h5, h6⟩ := Option.map_eq_some_iff.mp h4
  cases h6
  refine ⟨Γ, ad, E, gs, E1, ok, h1, fun vs H1 fr1 ok1 sim1 r1 => ?_⟩
  have r := RepG.repL (onlyV_map h3) r1
  unfold itZ at h5
  split at h5
  · cases h5
    obtain ⟨v, u, e1, ra, rb⟩ := repL_two r
    obtain ⟨a, xs, e3, t, hz, r3⟩ := ra.lst
    obtain ⟨b, ys, e4, t2, hz2, r4⟩ := rb.lst
    subst e1 e3 e4
    refine ⟨a, b, xs, ys, rfl, .inl ⟨t.sq, t2.sq, q _ _ _ _ H1 fr1 ok1 sim1 (walk_zip (xs := xs) (ys := ys) rfl) (by rw [List.length_zipWith, r3.length, r4.length]) ?_⟩⟩
    rw [sim1.Ao]
    exact its_zip hz r3 r4 fun H2 A2 g => ⟨(g.lst t).sq, (g.lst t2).sq⟩
  · cases h5
    obtain ⟨v, u, e1, ra, rb⟩ := repL_two r
    obtain ⟨a, xs, e3, t, hz, r3⟩ := ra.tup
    obtain ⟨b, ys, e4, t2, hz2, r4⟩ := rb.tup
    subst e1 e3 e4
    refine ⟨a, b, xs, ys, rfl, .inr ⟨t.sq, t2.sq, q _ _ _ _ H1 fr1 ok1 sim1 (walk_zipT (xs := xs) (ys := ys) rfl) (by rw [List.length_zipWith, r3.length, r4.length]) ?_⟩⟩
    rw [sim1.Ao]
    exact its_zip hz r3 r4 fun H2 A2 g => ⟨(g.tup t).sq, (g.tup t2).sq⟩
  · cases h5
/-- a test that is itself a if c else b -/
def fIfC (gc ga gb : Ev Bool) : Ev Bool := fun E => (gc E).bind fun r => if r.1 = true then ga r.2 else gb r.2
theorem dt_ifE {a b c : Expr} {gc ga gb : Ev Bool} (hc : PT X c (cD X.K io gc)) (ha : PT X a (cD X.K io ga)) (hb : PT X b (cD X.K io gb)) : PT X (.IfExp c a b pos) (cD X.K io (fIfC gc ga gb)) := ⟨fun pins s σ H Q I w => by
  have w' : cD X.K io gc σ H fun k H1 => if k = true then cD X.K io ga σ H1 Q else cD X.K io gb σ H1 Q := by
    refine rd_then (f := gc) (g := fun x E1 => if x = true then ga E1 else gb E1) (fun _ => rfl) w fun Γ ad E x vx H1 y E1 E2 h1 h2 ok1 fr1 sim1 r1 k => ?_
    cases r1
    cases x with
    | true => exact ⟨Γ, ad, E1, y, E2, ok1, h2, fun v H' f ok s r => k v H' f ok s r⟩
    | false => exact ⟨Γ, ad, E1, y, E2, ok1, h2, fun v H' f ok s r => k v H' f ok s r⟩
  refine isTrue_IfExp (thn (hc.run pins s σ H _ I w') fun d s1 ⟨H1, I1, q1⟩ => ?_)
  cases d with
  | true => exact ha.run pins s1 σ H1 Q I1 q1
  | false => exact hb.run pins s1 σ H1 Q I1 q1⟩
end
end DL

namespace DL
open PySem PySem.Spec PyProof.Rows L2
/-- a comprehension with a test -/
theorem lcL_filt {vs : List Nat} {τ : Tf} {gt : Ev Bool} {fe : Ef} {E : Env'} (p : PyData → Bool) (g : PyData → PyData) : ∀ {ds : List PyData}, (∀ d ∈ ds, ∃ as E1, τ d = some as ∧ gt (setE E as) = some (p d, E1) ∧ wipeE E1 vs = E ∧ (p d = true → ∃ E2, fe E1 = some (g d, E2) ∧ wipeE E2 vs = E)) → lcL vs τ gt fe ds E = some ((ds.filter p).map g, E)
  | [], _ => rfl
  | d :: ds, h => by
    obtain ⟨as, E1, h1, h2, h3, h4⟩ := h d List.mem_cons_self
    have ih := lcL_filt p g (ds := ds) fun d hd => h d (List.mem_cons_of_mem _ hd)
    unfold lcL
    rw [h1]
    show ((gt (setE E as)).bind fun r => if r.1 = true then (fe r.2).bind fun s => (lcL vs τ gt fe ds (wipeE s.2 vs)).map fun t => (s.1 :: t.1, t.2) else lcL vs τ gt fe ds (wipeE r.2 vs)) = _
    rw [h2]
    show (if p d = true then (fe E1).bind fun s => (lcL vs τ gt fe ds (wipeE s.2 vs)).map fun t => (s.1 :: t.1, t.2) else lcL vs τ gt fe ds (wipeE E1 vs)) = _
    cases hp : p d with
    | true =>
      obtain ⟨E2, h5, h6⟩ := h4 hp
      rw [if_pos rfl, h5, List.filter_cons_of_pos hp]
      show ((lcL vs τ gt fe ds (wipeE E2 vs)).map fun t => (g d :: t.1, t.2)) = _
      rw [h6, ih]
      rfl
    | false =>
      rw [if_neg Bool.false_ne_true, h3, ih, List.filter_cons_of_neg (by rw [hp]; exact Bool.false_ne_true)]
theorem fLc_filt {vs : List Nat} {fl : Lf} {τ : Tf} {gt : Ev Bool} {fe : Ef} {E E1 Ew E3 : Env'} {ds : List PyData} (p : PyData → Bool) (g : PyData → PyData) (hl : fl E = some (ds, E1)) (ho : vs.any (fun i => isOwn E1[i]?) = false) (hw : wipeE E1 vs = Ew) (hb : backE E1 Ew vs = E3)
    (h : ∀ d ∈ ds, ∃ as E1, τ d = some as ∧ gt (setE Ew as) = some (p d, E1) ∧ wipeE E1 vs = Ew ∧ (p d = true → ∃ E2, fe E1 = some (g d, E2) ∧ wipeE E2 vs = Ew)) : fLc vs fl τ gt fe E = some ((ds.filter p).map g, E3) := by
  unfold fLc
  rw [hl]
  show (if (vs.any fun i => isOwn E1[i]?) = true then none else (lcL vs τ gt fe ds (wipeE E1 vs)).map fun t => (t.1, backE E1 t.2 vs)) = _
  rw [ho, hw, lcL_filt p g h]
  show some ((ds.filter p).map g, backE E1 Ew vs) = _
  rw [hb]
/-- the signs of a text, as texts -/
def sgn (z : Str) : List PyData := z.cps.toList.map fun c => .str ⟨#[c]⟩
theorem itS_str (z : Str) : itS (.str z) = some (sgn z) := rfl
theorem in_str (c : Nat) (z : Str) : oIn (.str ⟨#[c]⟩) (.str z) = some (.bool (decide (c ∈ z.cps.toList))) := by
  simp [oIn, inB]
theorem notIn_str (c : Nat) (z : Str) : oNotIn (.str ⟨#[c]⟩) (.str z) = some (.bool (!decide (c ∈ z.cps.toList))) := by
  simp [oNotIn, inB]
/-- two lists, one of them empty -/
def oEqL : PyData → PyData → Option PyData
  | .list xs, .list ys => if (xs.isEmpty || ys.isEmpty) = true then some (.bool (xs.isEmpty && ys.isEmpty)) else none
  | _, _ => none
def oNeL : PyData → PyData → Option PyData
  | .list xs, .list ys => if (xs.isEmpty || ys.isEmpty) = true then some (.bool (!(xs.isEmpty && ys.isEmpty))) else none
  | _, _ => none
def rEqLN (K : PySem.W.Frag) (f : Bool → Bool) : R2 := fun x y H Q => ∃ a b xs ys, x = .ref a ∧ y = .ref b ∧ SqL K H a xs ∧ SqL K H b ys ∧ (xs.isEmpty || ys.isEmpty) = true ∧ Q (.bl (f (xs.isEmpty && ys.isEmpty))) H
section
variable {X : Cx} {K : PySem.W.Frag}
theorem op_eqL (hu : X.A.units + 64 < cLine) : OpR X (compareOp .Eq) (rEqLN X.K id) := by
  intro pins s σ H x y v u Q I rx ry h
  obtain ⟨a, b, xs, ys, rfl, rfl, ta, tb, hn, q⟩ := h
  cases rx
  cases ry
  obtain ⟨its, r, p, _⟩ := I.list ta
  obtain ⟨its2, r2, p2, _⟩ := I.list tb
  have l1 := r.length
  have l2 := r2.length
  by_cases hs : its.toArray.size = its2.toArray.size
  · refine SeqAt.RcAt.lists (e := fun _ => false) p.isList p2.isList hs (by omega) (fun j h1 h2 => ?_) _ _ _ _ ?_
    · exfalso
      rw [List.size_toArray] at h1 h2
      cases xs with
      | nil => simp at l1; omega
      | cons x xs => cases ys with
        | nil => simp at l2; omega
        | cons y ys => cases hn
    · refine ⟨.bl _, H, I, ?_, q⟩
      show Value.bool _ = Value.bool _
      rw [List.size_toArray, List.size_toArray] at hs
      rw [List.size_toArray, ← l1]
      cases xs with
      | nil => cases ys with
        | nil => rfl
        | cons y ys => simp at l1 l2; omega
      | cons x xs => cases ys with
        | nil => simp at l1 l2; omega
        | cons y ys => cases hn
  · refine SeqAt.RcAt.lists_lengths p.isList p2.isList (bne_iff_ne.mpr hs) (by omega) _ _ _ _ ?_
    refine ⟨.bl _, H, I, ?_, q⟩
    show Value.bool _ = Value.bool _
    rw [List.size_toArray, List.size_toArray, ← l1, ← l2] at hs
    cases xs with
    | nil => cases ys with
      | nil => exact absurd rfl hs
      | cons y ys => rfl
    | cons x xs => rfl
theorem rs_eqL : RS K (rEqLN K id) oEqL := by
  intro H A x y z vx vy Q hA rx ry hz k
  unfold oEqL at hz
  split at hz
  · split at hz
    · rename_i hc
      cases hz
      obtain ⟨a, vs, e1, t1, z1, r1⟩ := rx.lst
      obtain ⟨b, us, e2, t2, z2, r2⟩ := ry.lst
      have l1 := r1.length
      have l2 := r2.length
      have em : ∀ {α β : Type} {xs : List α} {ys : List β}, xs.length = ys.length → xs.isEmpty = ys.isEmpty := fun {α β xs ys} h => by
        cases xs <;> cases ys <;> first | rfl | (simp at h)
      refine ⟨a, b, vs, us, e1, e2, .inl t1, .inl t2, by rw [em l1, em l2]; exact hc, k _ _ Frm.refl ?_⟩
      rw [em l1, em l2]
      unfold RepD
      rfl
    · cases hz
  · cases hz
end
end DL

namespace DL
open PySem PySem.Spec PyProof.Rows L2
section
variable {X : Cx} {pins : List (Addr × Obj)} {σ : L2.St} {H : Hp} {s : Shared} {A : Addr → Prop}
/-- where Python keeps its modules no thing stands -/
theorem no_sys (I : Inv X pins σ H s) (hB : (X.base.get? sysModules).isSome = true) : H sysModules = none := by
  obtain ⟨o, ho⟩ := Option.isSome_iff_exists.mp hB
  exact (I.bs _ _ ho).2
mutual
theorem rep_reads (I : Inv X pins σ H s) (hs : H sysModules = none) : ∀ (d : PyData) (v : V) (u : Value), RepD X.K H A d v → RelV v u → ∃ as, Reads s.heap u d as ∧ sysModules ∉ as
  | .none, v, u, h, r => by cases h.non; cases r; exact ⟨_, .none, by simp⟩
  | .bool b, v, u, h, r => by cases h.bl; cases r; exact ⟨_, .bool b, by simp⟩
  | .int i, v, u, h, r => by cases h.int; obtain ⟨t, rfl⟩ := r; exact ⟨_, .int i t, by simp⟩
  | .str x, v, u, h, r => by obtain ⟨e, _⟩ := h.str; subst e; obtain ⟨t, rfl⟩ := r; exact ⟨_, .str x t, by simp⟩
  | .tuple xs, v, u, h, r => by
    obtain ⟨a, vs, e, t, _, rl⟩ := h.tup
    subst e
    cases r
    obtain ⟨its, rv, ⟨o, ho, hc, n, hd⟩, _⟩ := I.tuple t.sq
    obtain ⟨as, hr, hn⟩ := rep_readsAll I hs xs vs its rl rv
    exact ⟨as, .tuple ho hc hd hr, hn⟩
  | .list xs, v, u, h, r => by
    obtain ⟨a, vs, e, t, _, rl⟩ := h.lst
    subst e
    cases r
    obtain ⟨its, rv, ⟨o, n, ho, hc, _, hd⟩, _⟩ := I.list t.sq
    obtain ⟨as, hr, hn⟩ := rep_readsAll I hs xs vs its rl rv
    refine ⟨a :: as, .list ho hc hd hr, fun z => ?_⟩
    rcases List.mem_cons.mp z with z | z
    · exact rd_on t.2 (z ▸ hs)
    · exact hn z
  | .dict kvs, v, u, h, r => by
    obtain ⟨a, e, z, _, q⟩ := h.dic
    subst e z
    cases r
    obtain ⟨_, hne, vs, rv, o, es, ep, ho, hx, hd, _, pr, _⟩ := dk_of I.hok q
    cases rv
    have e0 : es.toList = [] := by
      generalize es.toList = l at pr
      cases pr
      rfl
    refine ⟨[a], ?_, fun z => ?_⟩
    · have := Reads.dict (h := s.heap) (a := a) (kvs := []) (as := []) (bs := []) ho hx.1 hd (by rw [e0]; exact .nil) (by rw [e0]; exact .nil)
      exact this
    · rw [← List.mem_singleton.mp z] at q
      rw [hs] at q
      cases q
theorem rep_readsAll (I : Inv X pins σ H s) (hs : H sysModules = none) : ∀ (ds : List PyData) (vs : List V) (us : List Value), RepL X.K H A ds vs → Vals vs us → ∃ as, ReadsAll s.heap us ds as ∧ sysModules ∉ as
  | [], vs, us, h, r => by unfold RepL at h; subst h; cases r; exact ⟨[], .nil, by simp⟩
  | d :: ds, vs, us, h, r => by
    unfold RepL at h
    obtain ⟨v, r', e, h1, h2⟩ := h
    subst e
    cases r with
    | cons rv rn =>
      obtain ⟨as, q1, n1⟩ := rep_reads I hs d v _ h1 rv
      obtain ⟨bs, q2, n2⟩ := rep_readsAll I hs ds r' _ h2 rn
      exact ⟨as ++ bs, .cons q1 q2, fun z => (List.mem_append.mp z).elim n1 n2⟩
end
end
/-! ### repr -/
section
variable {X : Cx} {K : PySem.W.Frag}
def reprOk (d : PyData) : Bool := d.showable && (decide (d.depth < 60) && decide (d.shown.length ≤ 16777216))
def oRepr : List PyData → Option PyData
  | [d] => if reprOk d then some (.str d.shown) else none
  | _ => none
def rRepr (K : PySem.W.Frag) : List V → Hp → VK → Prop := fun xs H Q => ∃ (A : Addr → Prop) (d : PyData) (v : V), xs = [v] ∧ RepS K H A d v ∧ reprOk d = true ∧ Q (.str d.shown) H
theorem call_reprD (hB : (X.base.get? sysModules).isSome = true) (hu : X.A.units + 64 < cLine) (hg : X.A.guards = some []) : CallR X (.builtin "repr") (rRepr X.K) := by
  intro pins s σ H xs us Q I r h
  obtain ⟨A, d, v, rfl, rs, ok, q⟩ := h
  obtain ⟨u, rfl, ru⟩ := vals1 r
  obtain ⟨o1, o2⟩ := Bool.and_eq_true_iff.mp ok
  obtain ⟨o2, o3⟩ := Bool.and_eq_true_iff.mp o2
  have o2 : d.depth < 60 := of_decide_eq_true o2
  have o3 : d.shown.length ≤ sizeLine := of_decide_eq_true o3
  have hs := no_sys I hB
  have fin : ∀ h' u tk, (∀ b o, s.heap.get? b = some o → h'.get? b = some o) → EP X pins σ Q (.str d.shown u) { s with heap := h', toks := tk } := fun h' u tk hk => ⟨.str _, H, I.kept hk, ⟨u, rfl⟩, q⟩
  obtain ⟨as, rd, na⟩ : ∃ as, Reads s.heap u d as ∧ sysModules ∉ as := by
    cases rs with
    | d h => exact rep_reads I hs d v u h ru
    | @l a xs vs h z rl =>
      cases ru
      obtain ⟨its, rv, ⟨o, n, ho, hc, _, hd⟩, _⟩ := I.list (.inl h)
      obtain ⟨as, hr, hn⟩ := rep_readsAll I hs xs vs its rl rv
      refine ⟨a :: as, .list ho hc hd hr, fun z => ?_⟩
      rcases List.mem_cons.mp z with z | z
      · exact rd_on h (z ▸ hs)
      · exact hn z
  cases rd with
  | none => exact PySem.P.repr_of_none (fin _ _ _ fun _ _ e => e)
  | bool b => exact PySem.P.repr_of_bool (fin _ _ _ fun _ _ e => e)
  | int i t => exact PySem.P.repr_of_int (of_decide_eq_true o1) (fin _ _ _ fun _ _ e => e)
  | str x t => exact PySem.P.repr_of_str (fin _ _ _ fun _ _ e => e) o3
  | list h1 h2 h3 h4 => exact repr_of_reads' (.list h1 h2 h3 h4) o1 (fun _ => na) hg (by omega) (fun _ _ e => e) fin o3
  | tuple h1 h2 h3 h4 => exact repr_of_reads' (.tuple h1 h2 h3 h4) o1 (fun _ => na) hg (by omega) (fun _ _ e => e) fin o3
  | dict h1 h2 h3 h4 h5 => exact repr_of_reads' (.dict h1 h2 h3 h4 h5) o1 (fun _ => na) hg (by omega) (fun _ _ e => e) fin o3
theorem cs_repr : CS K (rRepr K) oRepr := by
  intro H A ds z vs Q hA rs hz k
  unfold oRepr at hz
  split at hz
  · split at hz
    · rename_i ok
      cases hz
      obtain ⟨v, e, r⟩ := rs.one
      subst e
      refine ⟨A, _, v, rfl, r, ok, k _ _ Frm.refl (rep_str ?_)⟩
      obtain ⟨_, o2⟩ := Bool.and_eq_true_iff.mp ok
      exact of_decide_eq_true (Bool.and_eq_true_iff.mp o2).2
    · cases hz
  · cases hz
end
/-! ### a, b, c = x, y, [] : the third name's own from now on -/
section
variable {X : Cx} {K : PySem.W.Frag} {io : List Nat} {fr : Af} {st : Stmt}
theorem own_fin {Γ : Gm} {ad : Nat → Addr} {σ σ0 : L2.St} {H H' : Hp} {E E1 : Env'} {i : Nat} {q : Addr} {vs : List V} {ds : List PyData} (hi : i ∉ io) (hl : i < E1.length) (ok : EOk K Γ io ad σ0 H E) (hown : ∀ (j : Nat) (m : M), E1[j]? = some (B.o m) → ∃ m', E[j]? = some (B.o m'))
    (fr : Frm (Wo Γ io ad E) H H') (hp : H q = none) (hq : H' q = some (.lst vs)) (hz : vs.length ≤ sizeLine) (ok' : EOk K (Γ.with q) io ad σ H' E1) (r : RepL K H' (Ao (Γ.with q) io ad E1) ds vs) :
    ∃ ad', Step Γ io ad E H ad' (E1.set i (B.o (.lst ds))) H' ∧ EOk K Γ io ad' (σ.set i (some (.ref q))) H' (E1.set i (B.o (.lst ds))) := by
  have np : ∀ j m, E1[j]? = some (B.o m) → ad j ≠ q := fun j m z e => by
    obtain ⟨m', z'⟩ := hown j m z
    exact ok.on (ad j) ((ok.wa _ (ok.wo z'))) (by rw [e]; exact hp)
  let ad' : Nat → Addr := fun j => if j = i then q else ad j
  have adi : ad' i = q := if_pos rfl
  have adj : ∀ j, j ≠ i → ad' j = ad j := fun j h => if_neg h
  have getj : ∀ (j : Nat) (m : M), j ≠ i → (E1.set i (B.o (.lst ds)))[j]? = some (B.o m) → E1[j]? = some (B.o m) := fun j m n z => by rw [List.getElem?_set_ne (Ne.symm n)] at z; exact z
  have subA : ∀ a, Ao Γ io ad' (E1.set i (B.o (.lst ds))) a → Ao (Γ.with q) io ad E1 a := fun a h => by
    rcases h with h | ⟨j, m, h1, h2, h3⟩
    · exact .inl (.inl h)
    · by_cases e : j = i
      · subst e; rw [adi] at h3; exact .inl (.inr h3)
      · rw [adj j e] at h3; exact .inr ⟨j, m, h1, getj j m e h2, h3⟩
  have g : Go H' (Ao (Γ.with q) io ad E1) H' (Ao Γ io ad' (E1.set i (B.o (.lst ds)))) := Go.less subA
  refine ⟨ad', ⟨fr, fun a h => ?_, fun j hj => adj j fun e => hi (e ▸ hj)⟩, ⟨by rw [List.length_set, List.length_set]; exact ok'.len, ok.w, fun a h => ok'.oA a (.inl h), ok'.hk, fun j d z => ?_, fun j m z => ?_, fun j m z hj => ?_, fun j m z hj => ?_, fun j k m m' z1 z2 e => ?_⟩⟩
  · obtain ⟨j, m, h1, h2, h3⟩ := h
    by_cases e : j = i
    · subst e; rw [adi] at h3; rw [h3]; exact .inr hp
    · rw [adj j e] at h3
      obtain ⟨m', z'⟩ := hown j m (getj j m e h2)
      exact .inl ⟨j, m', h1, z', h3⟩
  · have e : j ≠ i := fun e => by subst e; rw [List.getElem?_set_self hl] at z; cases z
    rw [List.getElem?_set_ne (Ne.symm e)] at z
    obtain ⟨v, q1, q2⟩ := ok'.vl j d z
    exact ⟨v, by rw [List.getElem?_set_ne (Ne.symm e)]; exact q1, g.rep d v q2⟩
  · by_cases e : j = i
    · subst e
      rw [List.getElem?_set_self hl] at z
      cases z
      exact ⟨by rw [adi, List.getElem?_set_self (by rw [ok'.len]; exact hl)], vs, by rw [adi]; exact hq, hz, g.repL ds vs r⟩
    · have z' := getj j m e z
      obtain ⟨q1, q2⟩ := ok'.ob j m z'
      refine ⟨by rw [adj j e, List.getElem?_set_ne (Ne.symm e)]; exact q1, ?_⟩
      rw [adj j e]
      cases m with
      | lst xs => obtain ⟨ws, y0, y1, y2⟩ := q2; exact ⟨ws, y0, y1, g.repL xs ws y2⟩
  · have e : j ≠ i := fun e => hi (e ▸ hj)
    rw [adj j e]
    exact ok'.obi j m (getj j m e z) hj
  · by_cases e : j = i
    · subst e
      rw [adi]
      refine ⟨?_, fun z => ?_⟩
      · cases qh : Γ.H q with
        | none => rfl
        | some o => exact absurd hp (ok.hk q (by rw [qh]; exact fun z => nomatch z))
      · exact ok.oA q z hp
    · rw [adj j e]
      obtain ⟨q1, q2⟩ := ok'.obn j m (getj j m e z) hj
      exact ⟨q1, fun z => q2 (.inl z)⟩
  · by_cases ej : j = i
    · by_cases ek : k = i
      · rw [ej, ek]
      · rw [ej, adi, adj k ek] at e
        exact absurd e.symm (np k m' (getj k m' ek z2))
    · by_cases ek : k = i
      · rw [ek, adi, adj j ej] at e
        exact absurd e (np j m (getj j m ej z1))
      · rw [adj j ej, adj k ek] at e
        exact ok'.inj j k m m' (getj j m ej z1) (getj k m' ek z2) e
theorem set_no {E : Env'} {i j : Nat} {d : PyData} {m : M} (h : (E.set i (B.v d))[j]? = some (B.o m)) : E[j]? = some (B.o m) := by
  by_cases e : j = i
  · subst e
    by_cases hl : j < E.length
    · rw [List.getElem?_set_self hl] at h; cases h
    · rw [List.getElem?_eq_none (by rw [List.length_set]; omega)] at h; cases h
  · rwa [List.getElem?_set_ne (Ne.symm e)] at h
theorem ds_par3O {i j l : Nat} (hi : i ∉ io) (hj : j ∉ io) (hl : l ∉ io) (h : PS X st (tPar3 i j l (bD X.K io fr (fLst1 aNil)))) : PS X st (sD X.K io (sSeq (sPar2 i j fr) (sOwn l (fLst1 aNil)))) := h.imp fun Dn σ H w => by
  obtain ⟨Γ, ad, E, o, ok, he, p⟩ := w
  obtain ⟨o1, h1, h2⟩ := Option.bind_eq_some_iff.mp he
  obtain ⟨⟨gs, E1⟩, h3, h4⟩ := Option.bind_eq_some_iff.mp h1
  obtain ⟨ds, h5, h6⟩ := Option.bind_eq_some_iff.mp h4
  split at h6
  · rename_i x y
    cases h6
    have h2' : (if l < (setE E1 [(i, x), (j, y)]).length then some (O.nx ((setE E1 [(i, x), (j, y)]).set l (B.o (.lst [])))) else none) = some o := h2
    split at h2'
    · rename_i hlen
      cases h2'
      refine ⟨Γ, ad, E, gs, E1, [], E1, ok, h3, rfl, fun vs q ws H' fr hp hq hz okw rw sim rg => ?_⟩
      have r' := RepG.repL (onlyV_map h5) rg
      unfold RepL at r'
      obtain ⟨v, r1, e, q1, r'⟩ := r'
      unfold RepL at r'
      obtain ⟨u, r2, e2, q2, r'⟩ := r'
      unfold RepL at r'
      subst r' e2 e
      unfold RepL at rw
      subst rw
      refine ⟨v, u, .ref q, rfl, ?_⟩
      have eA : Ao (Γ.with q) io ad E1 = Ao (Γ.with q) io ad E := by
        funext a; unfold Ao; rw [sim.Own]
      obtain ⟨ok2, sub⟩ := okw.sets (as := [(i, x), (j, y)]) (ws := [(i, v), (j, u)]) (fun p hp => by
        rcases List.mem_cons.mp hp with e | hp
        · subst e; exact hi
        · cases List.mem_singleton.mp hp; exact hj) (by rw [eA]; exact ⟨v, _, rfl, q1, u, _, rfl, q2, by unfold SetR; rfl⟩)
      obtain ⟨ad', s1, s2⟩ := own_fin (i := l) (q := q) (vs := []) (ds := []) hl hlen ok (fun j' m z => sim.own.mp ⟨m, set_no (set_no z)⟩) fr hp hq hz ok2 repL_nil
      exact p _ H' ad' s1 s2
    · cases h2'
  · cases h6
end
/-! ### tuple * int -/
section
variable {X : Cx} {K : PySem.W.Frag}
def oMulX : PyData → PyData → Option PyData
  | .tuple xs, .int k => if xs.length ≠ 0 ∧ 2 ≤ k ∧ k ≤ 1000 ∧ xs.length ≤ 1000 then some (.tuple (List.replicate k.toNat xs).flatten) else none
  | x, y => oMul x y
def rMulX (K : PySem.W.Frag) : R2 := fun x y H Q => rMulD x y H Q ∨ rRepT K x y H Q
theorem op_mulX : OpR X (binaryOp .Mult) (rMulX X.K) := op_mulD.or op_repT
theorem rs_mulX : RS K (rMulX K) oMulX := by
  intro H A x y z vx vy Q hA rx ry hz k
  unfold oMulX at hz
  split at hz
  · split at hz
    · rename_i xs n hc
      obtain ⟨h1, h2, h3, h4⟩ := hc
      cases hz
      obtain ⟨a, vs, e1, t1, z1, r1⟩ := rx.tup
      cases ry.int
      subst e1
      have l1 := r1.length
      refine .inr ⟨a, n, vs, rfl, rfl, t1.sq, fun e => h1 (by rw [← l1, e]; rfl), h2, h3, by omega, fun p hp => k _ _ (Frm.new hp) (rep_newT hA hp ?_ (r1.rep _))⟩
      rw [PyProof.Rows.lm_len_rep_flat]
      have : n.toNat * vs.length ≤ 1000 * 1000 := Nat.mul_le_mul (by omega) (by omega)
      exact Nat.le_trans this (by decide)
    · cases hz
  · exact .inl (rs_mul H A x y z vx vy Q hA rx ry hz k)
end
end DL

namespace DL
open PySem PySem.Spec PyProof.Rows L2
section
/-! ### a, *b = x -/
theorem walks_from {prog : Program} {w : World} {A : Around} {I : Addr} {fp wr : List Addr} {n : Nat} {P : Nat → Value → Prop} {St : Nat → Heap → Prop} (h : Walks prog w A I fp wr n P St) (k : Nat) (hk : k ≤ n) : Walks prog w A I fp wr (n - k) (fun i v => P (i + k) v) (fun i h => St (i + k) h) where
  sub := h.sub
  frame := fun i => h.frame (i + k)
  item := fun i s Q E hi hs hq => h.item (i + k) s Q E (by omega) hs fun v h' tk hp hst hk' => hq v h' tk hp (by rw [Nat.add_right_comm]; exact hst) hk'
  done := fun s Q E hs hq => h.done s Q E (by rw [Nat.sub_add_cancel hk] at hs; exact hs) hq
  self := fun i => h.self (i + k)
theorem star_gen {prog : Program} {w : World} {A : Around} {E : Value → Shared → Prop} {s s1 : Shared} {v : Value} {it ax : Addr} {its : Array Value} {x : Value} {xs : List Value} {St : Nat → Heap → Prop} {T : String} {Q : List Value → Shared → Prop}
    (hn : ∀ Q : Bool → Shared → Prop, Q false s → wpAny (model prog w) A (notIterableAtAll v) Q E s)
    (hi : ∀ Q : Value → Shared → Prop, Q (.ref it) s1 → wpAny (model prog w) A (pyIter v) Q E s)
    (W1 : Walks prog w A it [it, ax] [it] its.size (fun i v => its[i]? = some v) St)
    (W2 : Walks prog w A.in1 it [it, ax] [it] its.size (fun i v => its[i]? = some v) St)
    (hT : T = "list_iterator" ∨ T = "tuple_iterator") (ty : ∀ i (s : Shared), St i s.heap → s.TypeIs (.ref it) T)
    (h0 : St 0 s1.heap) (bd : ∀ (i : Nat) (h : Heap), St i h → it < h.objs.size ∧ ax < h.objs.size)
    (he : its.toList = x :: xs) (hs : its.size ≤ sizeLine)
    (q : ∀ (h' : Heap) (tk : Nat), (∀ (b : Addr) (o : Obj), b ≠ it → s1.heap.get? b = some o → h'.get? b = some o) → Q [x, .ref h'.objs.size] { heap := h'.push { cls := .type "list", data := .seq xs.toArray }, gens := s1.gens, drawn := s1.drawn, toks := tk, os := s1.os }) :
    wpAny (model prog w) A (unpackItems v 2 (some 1)) Q E s := by
  have hsz : its.size = xs.length + 1 := by rw [← Array.length_toList, he]; rfl
  unfold unpackItems
  refine wpAny_bind (hn _ ?_)
  refine wpAny_bind (wpAny_holding (hi _ ?_))
  refine wpAny_bind (wpAny_holding ?_)
  show wpAny (model prog w) A (do
    match ← pyNext (.ref it) with
    | none => pure []
    | some v => do
      let r ← holding [v] (draw (.ref it) 0)
      pure (v :: r)) _ E s1
  refine wpAny_bind (W1.item 0 s1 _ E (by omega) h0 fun y h1 tk1 hy hst k1 => ?_)
  have ey : y = x := by
    have : its[0]? = some x := by rw [← Array.getElem?_toList, he]; rfl
    rw [this] at hy; cases hy; rfl
  subst ey
  refine wpAny_bind (wpAny_holding (wpAny_pure ?_))
  refine wpAny_pure ?_
  show wpAny (model prog w) A (do
    let rest ← holding [y] (collect (.ref it))
    _) Q E _
  refine wpAny_bind (wpAny_holding (wpAny_collect_iter (T := T) ?_ (walks_from W2 1 (by omega)).toS (fun i s h => ty _ s h) hst ?_ (by simp) ?_ (by omega)))
  · rcases hT with h | h <;> simp [h]
  · intro b hb
    have := bd _ _ hst
    simp only [List.mem_cons, List.not_mem_nil, or_false] at hb
    rcases hb with rfl | rfl
    · exact this.1
    · exact this.2
  · intro s2 acc hm hacc
    have ea : acc.toList = xs := by
      obtain ⟨a1, a2⟩ := hacc
      apply List.ext_getElem?
      intro j
      have hx : ∀ j, xs[j]? = its[j + 1]? := fun j => by rw [← Array.getElem?_toList, he]; rfl
      by_cases hj : j < acc.size
      · have e1 : acc.toList[j]? = some acc[j] := by rw [Array.getElem?_toList]; exact Array.getElem?_eq_getElem hj
        rw [e1, hx]
        exact (a2 j _ (Array.getElem?_eq_getElem hj)).symm
      · rw [List.getElem?_eq_none (by rw [Array.length_toList]; omega), List.getElem?_eq_none (by omega)]
    obtain ⟨hh, gg, dd, oo, tt⟩ := hm
    obtain ⟨h2, g2, d2, t2, o2⟩ := s2
    simp only at hh gg dd oo
    subst gg dd oo
    rw [ea]
    have c0 : ¬ (xs.length < 2 - 1 - 1) := by omega
    simp only [c0, if_false]
    refine wpAny_bind (wpAny_newList ?_ (by rw [List.length_take]; omega))
    refine wpAny_pure ?_
    have e3 : xs.take (xs.length - (2 - 1 - 1)) = xs := by simp
    have e4 : xs.drop (xs.length - (2 - 1 - 1)) = [] := by simp
    rw [e3, e4]
    exact q h2 t2 fun b o hb ho => hh b o (by simpa using hb) (k1 b o (by simpa using hb) ho)
def gStar (K : PySem.W.Frag) (t u : TG) : TG := fun v σ H Q => ∃ a y ys, v = .ref a ∧ (SqT K H a (y :: ys) ∨ SqL K H a (y :: ys)) ∧ ∀ p, H p = none → t y σ (upd H p (.lst ys)) fun σ1 H1 => u (.ref p) σ1 H1 Q
variable {X : Cx}
theorem pg_star {e1 e2 : Expr} {p pos : Pos} {k : Nat} {t u : TG} (hc : X.calm = true) (h1 : PG X e1 t) (h2 : PG X e2 u)
    (hs : assignEach [e1, .Starred e2 p] X.env = [(false, assign e1 X.env), (true, assign e2 X.env)] := by rfl) : PG X (.Tuple [e1, .Starred e2 p] k pos) (gStar X.K t u) where
  run := fun pins s σ H v uu Q I r hw => by
    obtain ⟨a, y, ys, rfl, hq, hw⟩ := hw
    cases r
    have hd : X.A.handled = none := I.ok.hd hc
    have hd1 : X.A.in1.handled = none := hd
    rw [PyProof.Rows.assign_Tuple, hs]
    refine wpAny_bind (wpAny_standAt ?_)
    show wpAny (model X.prog X.w) X.A (do
      let l ← holding [.ref a] (unpackItems (.ref a) 2 (some 1))
      assignInOrder [assign e1 X.env, assign e2 X.env] l) _ _ _
    refine wpAny_bind (wpAny_holding ?_)
    have fin : ∀ (x : Value) (xs : List Value) (h' : Heap) (tk : Nat), Vals (y :: ys) (x :: xs) → ys.length ≤ sizeLine → (∀ (b : Addr) (o : Obj), s.heap.get? b = some o → h'.get? b = some o) →
        wpAny (model X.prog X.w) X.A (assignInOrder [assign e1 X.env, assign e2 X.env] [x, .ref h'.objs.size]) (fun _ s' => ∃ σ' H', L2.Inv X pins σ' H' s' ∧ Q σ' H') X.xe { heap := h'.push { cls := .type "list", data := .seq xs.toArray }, gens := s.gens, drawn := s.drawn, toks := tk, os := s.os } := by
      intro x xs h' tk rv hl hk
      cases rv with
      | cons r1 rr =>
      have I1 := I.kept (t' := tk) hk
      have I2 := I1.lnew (t' := tk) rr hl
      refine (show wpAny _ _ (do
        holding [.ref h'.objs.size] (assign e1 X.env x)
        assignInOrder [assign e2 X.env] [.ref h'.objs.size]) _ _ _ from ?_)
      refine wpAny_bind (wpAny_holding (wpAny_mono (h1.run pins _ _ _ _ _ _ I2 r1 (hw _ I1.fresh)) ?_ fun _ _ h => h))
      rintro _ s2 ⟨σ2, H2, J, w2⟩
      refine (show wpAny _ _ (do
        holding [] (assign e2 X.env (.ref h'.objs.size))
        assignInOrder [] []) _ _ _ from ?_)
      refine wpAny_bind (wpAny_holding (wpAny_mono (h2.run pins _ _ _ (.ref h'.objs.size) _ _ J rfl w2) ?_ fun _ _ h => h))
      rintro _ s3 ⟨σ3, H3, J3, w3⟩
      exact wpAny_pure ⟨σ3, H3, J3, w3⟩
    rcases hq with hq | hq
    · obtain ⟨its, rv, ht, hz⟩ := I.tuple hq
      cases its with
      | nil => cases rv
      | cons x xs =>
      have ne : a ≠ s.heap.objs.size := by
        obtain ⟨o, ho, _⟩ := ht
        exact Nat.ne_of_lt (Heap.lt_size ho)
      refine star_gen (it := s.heap.objs.size) (ax := a) (its := (x :: xs).toArray) (x := x) (xs := xs) (T := "tuple_iterator") (St := fun i h => h.IsTupleIter s.heap.objs.size a i ∧ h.IsTuple a (x :: xs).toArray)
        (fun Q hQ => wpAny_bind (wpAny_specialOf (IsTup.typeIs ht) slot_tuple_iter.lookup (wpAny_pure hQ))) (fun Q hQ => wpAny_pyIter_tuple ht hQ)
        (Walks.tuple hd _ _ ne _) (Walks.tuple hd1 _ _ ne _) (.inr rfl) (fun i s h => by obtain ⟨⟨o, h1, h2, _⟩, _⟩ := h; exact ⟨o, h1, h2⟩)
        ⟨⟨_, Heap.get?_push_size _ rfl, rfl, rfl⟩, IsTup.push ht _⟩ (fun i h w => by obtain ⟨⟨o, h1, _⟩, ⟨o2, h2, _⟩⟩ := w; exact ⟨Heap.lt_size h1, Heap.lt_size h2⟩) rfl ?_ ?_
      · have := rv.length
        rw [List.size_toArray, ← this]; exact hz
      · intro h' tk hk
        have := rv.length
        simp only [List.length_cons] at this hz
        exact fin x xs h' tk rv (by omega) fun b o ho => hk b o (Nat.ne_of_lt (Heap.lt_size ho)) (Heap.get?_push_of_some _ ho)
    · obtain ⟨its, rv, ht, hz⟩ := I.list hq
      cases its with
      | nil => cases rv
      | cons x xs =>
      have ht : s.heap.IsList a (x :: xs).toArray := by
        obtain ⟨o, n, h1, h2, _, h3⟩ := ht
        exact ⟨o, h1, h2, n, h3⟩
      have ne : a ≠ s.heap.objs.size := by
        obtain ⟨o, ho, _⟩ := ht
        exact Nat.ne_of_lt (Heap.lt_size ho)
      refine star_gen (it := s.heap.objs.size) (ax := a) (its := (x :: xs).toArray) (x := x) (xs := xs) (T := "list_iterator") (St := fun i h => h.IsListIter s.heap.objs.size a i ∧ h.IsList a (x :: xs).toArray)
        (fun Q hQ => wpAny_bind (wpAny_specialOf (T := "list") (by obtain ⟨o, h1, h2, _⟩ := ht; exact ⟨o, h1, h2⟩) PySem.slot_list_iter.lookup (wpAny_pure hQ))) (fun Q hQ => wpAny_pyIter_list ht hQ)
        (Walks.list hd _ _ ne _) (Walks.list hd1 _ _ ne _) (.inl rfl) (fun i s h => by obtain ⟨⟨o, h1, h2, _⟩, _⟩ := h; exact ⟨o, h1, h2⟩)
        ⟨⟨_, Heap.get?_push_size _ rfl, rfl, rfl⟩, by obtain ⟨o, h1, h2, h3⟩ := ht; exact ⟨o, Heap.get?_push_of_some _ h1, h2, h3⟩⟩ (fun i h w => by obtain ⟨⟨o, h1, _⟩, ⟨o2, h2, _⟩⟩ := w; exact ⟨Heap.lt_size h1, Heap.lt_size h2⟩) rfl ?_ ?_
      · have := rv.length
        rw [List.size_toArray, ← this]; exact hz
      · intro h' tk hk
        have := rv.length
        simp only [List.length_cons] at this hz
        exact fin x xs h' tk rv (by omega) fun b o ho => hk b o (Nat.ne_of_lt (Heap.lt_size ho)) (Heap.get?_push_of_some _ ho)
end
/-! ### a, *b = x : read -/
section
variable {X : Cx} {K : PySem.W.Frag} {io : List Nat} {fa : Ef}
def headTail : PyData → Option (PyData × List PyData)
  | .tuple (x :: xs) => some (x, xs)
  | .list (x :: xs) => some (x, xs)
  | _ => none
theorem ht_rep {H : Hp} {A : Addr → Prop} {d x : PyData} {xs : List PyData} {v : V} (e : headTail d = some (x, xs)) (r : RepD K H A d v) : ∃ a w ws, v = .ref a ∧ (SqT K H a (w :: ws) ∨ SqL K H a (w :: ws)) ∧ ws.length ≤ sizeLine ∧ RepD K H A x w ∧ RepL K H A xs ws := by
  unfold headTail at e
  split at e
  · cases e
    obtain ⟨a, ws, e2, t, hl, r'⟩ := r.tup
    unfold RepL at r'
    obtain ⟨w, ws', e3, r1, r2⟩ := r'
    subst e3
    exact ⟨a, w, ws', e2, .inl t.sq, by simp only [List.length_cons] at hl; omega, r1, r2⟩
  · cases e
    obtain ⟨a, ws, e2, t, hl, r'⟩ := r.lst
    unfold RepL at r'
    obtain ⟨w, ws', e3, r1, r2⟩ := r'
    subst e3
    exact ⟨a, w, ws', e2, .inr t.sq, by simp only [List.length_cons] at hl; omega, r1, r2⟩
  · cases e
def sStar (fa : Ef) (i j : Nat) : Sf := fun E => (fa E).bind fun r => (headTail r.1).map fun p => .nx (setE r.2 [(i, p.1), (j, .list p.2)])
theorem sD_star {i j : Nat} (hi : i ∉ io) (hj : j ∉ io) {Dn : Ends} {σ : L2.St} {H : Hp} (w : sD K io (sStar fa i j) Dn σ H) : tAsg (tD K io fa) (gStar K (gName i) (gName j)) Dn σ H := by
  obtain ⟨Γ, ad, E, o, ok, he, p⟩ := w
  obtain ⟨⟨d, E1⟩, h1, h2⟩ := Option.bind_eq_some_iff.mp he
  obtain ⟨⟨x, xs⟩, h3, h4⟩ := Option.map_eq_some_iff.mp h2
  subst h4
  refine ⟨Γ, ad, E, d, E1, ok, h1, fun v H' fr ok' sim r => ?_⟩
  obtain ⟨a, w, ws, rfl, hs, hl, r1, r2⟩ := ht_rep h3 r
  refine ⟨a, w, ws, rfl, hs, fun q hq => ?_⟩
  obtain ⟨okw, g⟩ := ok'.with hq (vs := ws)
  have np : ¬ Ao Γ io ad E q := fun z => ok'.on q (by rw [sim.Ao]; exact z) hq
  have ok2 := okw.unwith ok.w
  have f : Frm F0 H' (upd H' q (.lst ws)) := Frm.new hq
  have g' : Go H' (Ao Γ io ad E) (upd H' q (.lst ws)) (Ao Γ io ad E) := ⟨fun a o h n => f.eq a o h id, fun a h => .inl h⟩
  have rl : RepD K (upd H' q (.lst ws)) (Ao Γ io ad E) (.list xs) (.ref q) := rep_lst ⟨np, .inl upd_same⟩ hl (g'.repL _ _ r2)
  obtain ⟨ok3, sub⟩ := ok2.sets (as := [(i, x), (j, .list xs)]) (ws := [(i, w), (j, .ref q)]) (fun p hp => by
    rcases List.mem_cons.mp hp with e | hp
    · subst e; exact hi
    · cases List.mem_singleton.mp hp; exact hj) (by rw [sim.Ao]; exact ⟨w, _, rfl, g'.rep _ _ r1, .ref q, _, rfl, rl, by unfold SetR; rfl⟩)
  exact p _ _ ad ⟨fr.trans' (Frm.new hq).of0, fun a h => .inl (by have := sub a h; rw [sim.Own] at this; exact this), fun _ _ => rfl⟩ ok3
theorem ds_star {i j : Nat} {tg a : Expr} {pos : Pos} (hi : i ∉ io) (hj : j ∉ io) (he : PE X a (tD X.K io fa)) (hg : PG X tg (gStar X.K (gName i) (gName j))) (hs : swapsWithSole [tg] a pos.line X.env = pure false := by rfl) (hw : swappedStores [tg] a X.env = pure none := by rfl)
    (h1 : (assignEach [tg] X.env).map (·.2) = [assign tg X.env] := by rfl) : PS X (.Assign [tg] a pos) (sD X.K io (sStar fa i j)) := (ps_asg he hg hs hw h1).imp fun Dn σ H w => sD_star hi hj w
/-- the rest is a list of the frame's own -/
def sStarO (fa : Ef) (i j : Nat) : Sf := fun E => (fa E).bind fun r => (headTail r.1).bind fun p => if j < (setE r.2 [(i, p.1)]).length then some (.nx ((setE r.2 [(i, p.1)]).set j (B.o (.lst p.2)))) else none
theorem sD_starO {i j : Nat} (hi : i ∉ io) (hj : j ∉ io) {Dn : Ends} {σ : L2.St} {H : Hp} (w : sD K io (sStarO fa i j) Dn σ H) : tAsg (tD K io fa) (gStar K (gName i) (gName j)) Dn σ H := by
  obtain ⟨Γ, ad, E, o, ok, he, p⟩ := w
  obtain ⟨⟨d, E1⟩, h1, h2⟩ := Option.bind_eq_some_iff.mp he
  obtain ⟨⟨x, xs⟩, h3, h4⟩ := Option.bind_eq_some_iff.mp h2
  split at h4
  · rename_i hlen
    cases h4
    refine ⟨Γ, ad, E, d, E1, ok, h1, fun v H' fr ok' sim r => ?_⟩
    obtain ⟨a, w, ws, rfl, hs, hl, r1, r2⟩ := ht_rep h3 r
    refine ⟨a, w, ws, rfl, hs, fun q hq => ?_⟩
    obtain ⟨okw, g⟩ := ok'.with hq (vs := ws)
    have eA : Ao (Γ.with q) io ad E1 = Ao (Γ.with q) io ad E := by
      funext a; unfold Ao; rw [sim.Own]
    have g0 : Go H' (Ao Γ io ad E) (upd H' q (.lst ws)) (Ao (Γ.with q) io ad E) := by rw [← eA, ← sim.Ao]; exact g
    obtain ⟨ok2, sub⟩ := okw.sets (as := [(i, x)]) (ws := [(i, w)]) (fun p hp => by
      cases List.mem_singleton.mp hp; exact hi) (by rw [eA]; exact ⟨w, _, rfl, g0.rep _ _ r1, by unfold SetR; rfl⟩)
    obtain ⟨ad', s1, s2⟩ := own_fin (i := j) (q := q) (vs := ws) (ds := xs) hj hlen ok (fun j' m z => sim.own.mp ⟨m, set_no z⟩) (fr.trans' (Frm.new hq).of0) (frm_none fr hq) upd_same hl ok2 ((Go.less fun a z => z.elim .inl fun z => .inr (by have := sub a z; rw [sim.Own] at this; exact this)).repL _ _ (g0.repL _ _ r2))
    exact p _ _ ad' s1 s2
  · cases h4
theorem ds_starO {i j : Nat} {tg a : Expr} {pos : Pos} (hi : i ∉ io) (hj : j ∉ io) (he : PE X a (tD X.K io fa)) (hg : PG X tg (gStar X.K (gName i) (gName j))) (hs : swapsWithSole [tg] a pos.line X.env = pure false := by rfl) (hw : swappedStores [tg] a X.env = pure none := by rfl)
    (h1 : (assignEach [tg] X.env).map (·.2) = [assign tg X.env] := by rfl) : PS X (.Assign [tg] a pos) (sD X.K io (sStarO fa i j)) := (ps_asg he hg hs hw h1).imp fun Dn σ H w => sD_starO hi hj w
end
/-! ### xs.extend(e) -/
theorem ext_meets {T : String} {o : Obj} (hT : T = "list" ∨ T = "tuple") (l : Addr) (items : Array Value) (n : Nat) (b : Addr) (items2 : Array Value) (n2 : Nat)
    (hc0 : ¬(!items.isEmpty && Builtin.List.listTooLong (items.size + items2.size)) = true) (hc1 : items.size ≤ sizeLine) (hs2 : items.size + items2.size ≤ sizeLine + 1) :
    Meets (Builtin.«list.extend» { pos := [.ref l, .ref b] }) fun _ R s => s.heap.get? l = some { cls := .type "list", data := .seq items n } ∧ (s.heap.get? b = some o ∧ o.cls = .type T ∧ o.data = .seq items2 n2) ∧
      R (Except.ok (Flow.ret Value.none)) { heap := s.heap.update l (Obj.mapSeq fun x => x ++ items2), gens := s.gens, drawn := s.drawn, toks := s.toks, os := s.os } :=
  Meets.of_wp fun prog w A R s h => by
    obtain ⟨hl, ⟨hb, hcl, hd⟩, h⟩ := h
    have hz' : (items ++ items2).size ≤ sizeLine + 1 := by rw [Array.size_append]; exact hs2
    unfold Builtin.«list.extend»
    refine wpAny_bind ?_
    refine id (wpAny_bind (id (wpAny_ite_true rfl (wpAny_pure (wpAny_pure ?_)))))
    unfold Builtin.List.listExtendWith
    refine wpAny_bind (wpAny_typeOf ⟨o, hb, hcl⟩ ?_)
    have h1 : (Builtin.List.listSameRef (.ref l) (.ref b) || Value.type T == Value.type "list" || Value.type T == Value.type "tuple") = true := by
      rcases hT with rfl | rfl
      · simp
      · simp
    refine wpAny_ite_true (decide_eq_true h1) ?_
    have li : ∀ {Q : Array Value → Shared → Prop} {c : Addr} {o : Obj} {its : Array Value} {n : Nat}, s.heap.get? c = some o → o.data = .seq its n → Q its s → wpAny (model prog w) A.in1 (Builtin.List.listItems (.ref c)) Q (fun e s' => R (Except.error e) s') s := by
      intro Q c o its n hc hd hQ
      unfold Builtin.List.listItems
      refine wpAny_bind (id (wpAny_bind (wpAny_load' hc ?_)))
      rw [hd]
      exact wpAny_pure (wpAny_pure hQ)
    refine wpAny_bind (li hb hd ?_)
    refine wpAny_bind (li hl rfl ?_)
    refine wpAny_ite_false (decide_eq_false hc0) ?_
    refine wpAny_bind (id (wpAny_updateSeq hl rfl ?_ hc1 hz'))
    exact id (wpAny_pure ⟨_, rfl, h⟩)
def rExtX (K : PySem.W.Frag) : V → List V → Hp → VK → Prop := fun x vs H Q => ∃ l b xs zs, x = .ref l ∧ vs = [.ref b] ∧ H l = some (.lst xs) ∧ (SqT K H b zs ∨ SqL K H b zs) ∧ xs.length + zs.length ≤ sizeLine ∧ Q .non (upd H l (.lst (xs ++ zs)))
theorem mt_extX {X : Cx} : MtM X "list.extend" (rExtX X.K) := by
  intro pins s σ H x vs v us Q I rx rv h
  obtain ⟨l, b, xs, zs, rfl, rfl, hH, hB, hz, q⟩ := h
  cases rx
  obtain ⟨u, rfl, ru⟩ := Vals.one rv
  cases ru
  obtain ⟨z, its, n, r, hl, e⟩ := I.lstM hH
  have fin : ∀ (T : String) (o : Obj) (its2 : List Value) (n2 : Nat), (T = "list" ∨ T = "tuple") → s.heap.get? b = some o → o.cls = .type T → o.data = .seq its2.toArray n2 → Vals zs its2 → wpAny (model X.prog X.w) X.A (call (.builtin "list.extend") [.ref l, .ref b]) (EP X pins σ Q) X.xe s := by
    intro T o its2 n2 hT e2 hc hd r2
    have hl2 := r2.length
    have hsz : its.toArray.size + its2.toArray.size ≤ sizeLine := by rw [List.size_toArray, List.size_toArray]; omega
    have hlong : ¬(!its.toArray.isEmpty && Builtin.List.listTooLong (its.toArray.size + its2.toArray.size)) = true := by rw [notLongL hsz, Bool.and_false]; exact Bool.false_ne_true
    exact call_meets F.slot_list_extend ⟨_, e, rfl⟩ F.entry_list_extend (F.args_list_extend_2 _ _) (ext_meets (o := o) hT l its.toArray n b its2.toArray n2 hlong (by rw [List.size_toArray]; omega) (by omega))
      ⟨e, ⟨e2, hc, hd⟩, .non, upd H l (.lst (xs ++ zs)), I.lset hH e (by simp) (r.append r2) (by rw [List.length_append]; exact hz), rfl, q⟩
  rcases hB with hB | hB
  · obtain ⟨its2, rv2, ⟨o, h1, h2, n2, h3⟩, _⟩ := I.tuple hB
    exact fin "tuple" o its2 n2 (.inr rfl) h1 h2 h3 rv2
  · obtain ⟨its2, rv2, ⟨o, n2, h1, h2, _, h3⟩, _⟩ := I.list hB
    exact fin "list" o its2 n2 (.inl rfl) h1 h2 h3 rv2
section
variable {X : Cx} {K : PySem.W.Frag} {io : List Nat} {fa : Ef}
def seqD : PyData → Option (List PyData)
  | .tuple xs => some xs
  | .list xs => some xs
  | _ => none
theorem seq_rep {H : Hp} {A : Addr → Prop} {d : PyData} {xs : List PyData} {v : V} (e : seqD d = some xs) (r : RepD K H A d v) : ∃ a ws, v = .ref a ∧ (SqT K H a ws ∨ SqL K H a ws) ∧ ws.length ≤ sizeLine ∧ RepL K H A xs ws := by
  unfold seqD at e
  split at e
  · cases e
    obtain ⟨a, ws, e2, t, hl, r'⟩ := r.tup
    exact ⟨a, ws, e2, .inl t.sq, hl, r'⟩
  · cases e
    obtain ⟨a, ws, e2, t, hl, r'⟩ := r.lst
    exact ⟨a, ws, e2, .inr t.sq, hl, r'⟩
  · cases e
def sExt (i : Nat) (fa : Ef) : Sf := fun E => (getO i E).bind fun _ => (fa E).bind fun r => (getO i r.2).bind fun xs => (seqD r.1).bind fun ys => if xs.length + ys.length ≤ sizeLine then some (.nx (r.2.set i (B.o (.lst (xs ++ ys))))) else none
theorem ds_ext {i : Nat} {x e : Expr} {st : Stmt} (hx : PE X x (tVar i)) (he : PE X e (tD X.K io fa)) (h : PE X e (tD X.K io fa) → PS X st (tDrop (tBM X.K "list" (rExtX X.K) (tVar i) (tCons (tD X.K io fa) tNil)))) : PS X st (sD X.K io (sExt i fa)) := (h he).imp fun Dn σ H w => by
  obtain ⟨Γ, ad, E, o, ok, he, p⟩ := w
  obtain ⟨xs0, h0, he⟩ := Option.bind_eq_some_iff.mp he
  obtain ⟨⟨d, E1⟩, h1, h2⟩ := Option.bind_eq_some_iff.mp he
  obtain ⟨xs, h3, h4⟩ := Option.bind_eq_some_iff.mp h2
  obtain ⟨ys, h5, h6⟩ := Option.bind_eq_some_iff.mp h4
  split at h6
  · rename_i hl
    cases h6
    obtain ⟨e1, vs0, q1, q2, q3⟩ := ok.getO h0
    refine ⟨_, e1, .inl ⟨rfl, vs0, .inl (.inl q1)⟩, Γ, ad, E, d, E1, ok, h1, fun v H' fr ok' sim r => ?_⟩
    obtain ⟨e2, vs, z1, z2, z3⟩ := ok'.getO h3
    obtain ⟨b, ws, rfl, hs, hz, r'⟩ := seq_rep h5 r
    have lv := z3.length
    have lw := r'.length
    refine ⟨_, b, vs, ws, rfl, rfl, z1, hs, by omega, ?_⟩
    obtain ⟨ok2, fr2, sim2⟩ := ok'.put (vs := vs ++ ws) (xs := xs ++ ys) (getO_at h3) (by rw [List.length_append]; omega) (z3.append (by rw [sim.Ao]; exact r'))
    rw [sim.Wo] at fr2
    exact p σ _ ad (Step.sim (fr.trans' fr2) (sim.trans sim2)) ok2
  · cases h6
end
end DL

namespace DL
open PySem PySem.Spec PyProof.Rows L2
/-! ### [e for a in x for b in y] -/
theorem wipe_sub {us ws : List Nat} (h : ∀ u ∈ us, u ∈ ws) (σ : L2.St) : wipe (wipe σ us) ws = wipe σ ws := by
  induction us with
  | nil => rfl
  | cons u us ih =>
    show wipe ((wipe σ us).set u none) ws = _
    rw [wipe_set (h u List.mem_cons_self)]
    exact ih fun v hv => h v (List.mem_cons_of_mem _ hv)
theorem walk_it {J : It} {n : Nat} {G : Hp → Prop} {Y : Nat → Hp → V → Hp → Prop} (wk : Walk J n G Y) {H0 : Hp} {Qd : Hp → Prop} {Bd : V → Hp → (Hp → Prop) → Prop} (Pv : Nat → Hp → Prop)
    (h0 : Pv 0 H0) (hG : ∀ i H, i ≤ n → Pv i H → G H) (step : ∀ i x H H', i < n → Pv i H → Y i H x H' → Bd x H' (Pv (i + 1))) (fin : ∀ H, Pv n H → Qd H) :
    ∃ W : Nat → Nat → Hp → Prop, (∃ m, W 0 m H0) ∧ ∀ (i m : Nat) (H : Hp), W i m H → J.stop i H ∧ Qd H ∨ J.go i H ∧ ∃ Nx : Hp → Prop, (∀ H', Nx H' → ∃ m', m' < m ∧ W (i + 1) m' H') ∧ ∀ (x : V) (H' : Hp), J.yld i H x H' → Bd x H' Nx := by
  refine ⟨fun i m H => i + m = n ∧ Pv i H, ⟨n, by omega, h0⟩, ?_⟩
  rintro i m H ⟨e, p⟩
  by_cases h : i = n
  · subst h
    exact .inl ⟨wk.stops H (hG _ H (Nat.le_refl _) p), fin H p⟩
  · refine .inr ⟨wk.goes i H (by omega) (hG i H (by omega) p), Pv (i + 1), fun H' q => ⟨m - 1, by omega, by omega, q⟩, fun x H' y => step i x H H' (by omega) p (wk.yields i H x H' (by omega) (hG i H (by omega) p) y)⟩
section
variable {X : Cx} {K : PySem.W.Frag} {io : List Nat} {fe : Ef} {gt : Ev Bool}
theorem lc_core {τ : Tf} {vs : List Nat} (ht : TOk io τ) (hv : TIn vs τ) {Γ : Gm} {D : Addr} {ad : Nat → Addr} {σ : L2.St} {H1 : Hp} {E1 Et : Env'} {ds ys accD0 : List PyData} {J : It} {n : Nat} {G : Hp → Prop} {Y : Nat → Hp → V → Hp → Prop} {accV0 : List V} {Qd : Hp → Prop}
    (ok1 : EOk K Γ io ad σ H1 E1) (hA : Γ.A D) (hW : ¬ Γ.W D) (hno' : ∀ i ∈ vs, isOwn E1[i]? = false) (wk : Walk J n G Y) (hn : n = ds.length) (its : Its' K H1 (Ao Γ io ad E1) ds G Y) (h0 : H1 D = some (.lst accV0)) (r0 : RepL K H1 (Ao Γ io ad E1) accD0 accV0)
    (h3 : lcL vs τ gt fe ds (wipeE E1 vs) = some (ys, Et)) (hz : accD0.length + ys.length ≤ sizeLine)
    (q : ∀ H' accV, Frm (fun a => Wo Γ io ad E1 a ∨ a = D) H1 H' → EOk K Γ io ad (wipe σ vs) H' Et → Sim (wipeE E1 vs) Et → H' D = some (.lst accV) → RepL K H' (Ao Γ io ad E1) (accD0 ++ ys) accV → Qd H') :
    ∃ W : Nat → Nat → Hp → Prop, (∃ m, W 0 m H1) ∧ ∀ (i m : Nat) (H : Hp), W i m H → J.stop i H ∧ Qd H ∨ J.go i H ∧ ∃ Nx : Hp → Prop, (∀ H', Nx H' → ∃ m', m' < m ∧ W (i + 1) m' H') ∧ ∀ (x : V) (H' : Hp), J.yld i H x H' →
      gD K τ x (wipe σ vs) H' fun σ2 H2 => wipe σ2 vs = wipe σ vs ∧ cD K io gt σ2 H2 fun b H3 => if b = true then tD K io fe σ2 H3 fun y H4 => ∃ acc, H4 D = some (.lst acc) ∧ acc.length < sizeLine ∧ Nx (upd H4 D (.lst (acc ++ [y]))) else Nx H3 := by
  obtain ⟨okw, eAw, eWw⟩ := ok1.wipe hno'
  have simW : ∀ {Ew : Env'}, Sim (wipeE E1 vs) Ew → Ao Γ io ad Ew = Ao Γ io ad E1 := fun s => by rw [s.Ao, eAw]
  have simWo : ∀ {Ew : Env'}, Sim (wipeE E1 vs) Ew → Wo Γ io ad Ew = Wo Γ io ad E1 := fun s => by rw [s.Wo, eWw]
  have nD : ¬ Wo Γ io ad E1 D := fun z => z.elim hW fun ⟨j, m, hj, hm, e⟩ => (ok1.obn j m hm hj).2 (e ▸ hA)
  have wide : ∀ {Ha Hb : Hp}, Frm (Wo Γ io ad E1) Ha Hb → Frm (fun a => Wo Γ io ad E1 a ∨ a = D) Ha Hb := fun f => ⟨fun a o h n => f.eq a o h fun z => n (.inl z), f.on⟩
  have goF : ∀ {Ha Hb : Hp}, Frm (fun a => Wo Γ io ad E1 a ∨ a = D) Ha Hb → Go Ha (Ao Γ io ad E1) Hb (Ao Γ io ad E1) := fun f => Go.frm f fun a z => z.elim (fun z => ok1.wa a z) fun z => by subst z; exact .inl hA
  refine walk_it wk (fun i H' => ∃ Ew accV accD rest, EOk K Γ io ad (wipe σ vs) H' Ew ∧ Sim (wipeE E1 vs) Ew ∧ Frm (fun a => Wo Γ io ad E1 a ∨ a = D) H1 H' ∧ H' D = some (.lst accV) ∧ RepL K H' (Ao Γ io ad E1) accD accV ∧
      lcL vs τ gt fe (ds.drop i) Ew = some (rest, Et) ∧ accD ++ rest = accD0 ++ ys) ⟨_, accV0, accD0, ys, okw, Sim.refl _, Frm.refl, h0, r0, h3, rfl⟩ ?_ ?_ ?_
  · rintro i H' hi ⟨Ew, accV, accD, rest, ok, sim, fr, hd, r, e1, e2⟩
    exact (its.at_ H' _ (by rw [simW sim]; exact goF fr) ok.on).1
  · rintro i x H' H'' hi ⟨Ew, accV, accD, rest, ok, sim, fr, hd, r, e1, e2⟩ y
    obtain ⟨d, hdd⟩ : ∃ d, ds[i]? = some d := ⟨ds[i]'(by omega), List.getElem?_eq_getElem (by omega)⟩
    obtain ⟨fr2, rd'⟩ := (its.at_ H' _ (by rw [simW sim]; exact goF fr) ok.on).2 i x H'' d hdd y
    rw [drop_at hdd] at e1
    obtain ⟨as, h5, h6⟩ := Option.bind_eq_some_iff.mp e1
    obtain ⟨⟨k, E2⟩, h7, h8⟩ := Option.bind_eq_some_iff.mp h6
    refine ⟨_, d, as, rd', h5, fun ws hw => ?_⟩
    have inv := hv d as h5
    have ewp : wipe (setS (wipe σ vs) ws) vs = wipe σ vs := by rw [wipe_setS (setR_slots hw inv), wipe_wipe]
    refine ⟨ewp, ?_⟩
    obtain ⟨ok2, sub⟩ := (ok.new fr2).sets (ht d as h5) hw
    have uW : ∀ j ∈ vs, isOwn Ew[j]? = false := fun j hj => sim.isOwn (by
      rw [wipe_get, if_pos hj]
      cases E1[j]? <;> rfl)
    have uS : ∀ j ∈ vs, isOwn (setE Ew as)[j]? = false := fun j hj => setE_own (uW j hj)
    have oS : Own io ad (setE Ew as) = Own io ad Ew := by
      funext a
      refine propext ⟨sub a, fun ⟨j, m, q1, q2, q3⟩ => ⟨j, m, q1, ?_, q3⟩⟩
      have : j ∉ vs := fun z => by have := uW j z; rw [q2] at this; cases this
      rw [setE_out this inv]
      exact q2
    have aS : Ao Γ io ad (setE Ew as) = Ao Γ io ad E1 := by
      rw [← simW sim]; funext a; unfold Ao; rw [oS]
    have wS : Wo Γ io ad (setE Ew as) = Wo Γ io ad E1 := by
      rw [← simWo sim]; funext a; unfold Wo; rw [oS]
    have next : ∀ {E3 : Env'}, Sim (setE Ew as) E3 → Sim (wipeE E1 vs) (wipeE E3 vs) := fun {E3} s3 => by
      refine ⟨?_, fun j => ?_⟩
      · rw [wipeE_length, s3.1, setE_length, sim.1]
      · by_cases hj : j ∈ vs
        · refine .inr ⟨fun m z => ?_, ?_⟩
          · rw [wipe_get, if_pos hj] at z
            cases hz : E1[j]? with
            | none => rw [hz] at z; cases z
            | some b => rw [hz] at z; cases z
          · rw [wipe_get, wipe_get, if_pos hj, if_pos hj]
            have hl3 : E3.length = E1.length := by rw [s3.1, setE_length, sim.1, wipeE_length]
            by_cases q : j < E1.length
            · rw [List.getElem?_eq_getElem q, List.getElem?_eq_getElem (by omega)] <;> rfl
            · rw [List.getElem?_eq_none (by omega), List.getElem?_eq_none (by omega)] <;> rfl
        · have e0 := setE_out (E := Ew) hj inv
          rcases sim.2 j with ⟨m, m', q1, q2⟩ | ⟨q1, q2⟩
          · rcases s3.2 j with ⟨m2, m3, q3, q4⟩ | ⟨q3, q4⟩
            · exact .inl ⟨m, m3, q1, by rw [wipe_get, if_neg hj]; exact q4⟩
            · rw [e0, q2] at q3; exact absurd rfl (q3 m')
          · refine .inr ⟨q1, ?_⟩
            rw [wipe_get (E := E3), if_neg hj]
            rcases s3.2 j with ⟨m2, m3, q3, q4⟩ | ⟨q3, q4⟩
            · rw [e0, q2] at q3; exact absurd q3 (q1 m2)
            · rw [q4, e0, q2]
    refine ⟨Γ, ad, setE Ew as, k, E2, ok2, h7, fun v H3 fr3 ok3 sim3 r3 => ?_⟩
    cases r3
    rw [wS] at fr3
    have fr23 : Frm (Wo Γ io ad E1) H' H3 := fr2.of0.trans' fr3
    have fr13 := fr.trans' (wide fr23)
    have hd3 : H3 D = some (.lst accV) := fr3.eq D _ (fr2.eq D _ hd id) nD
    have g3 := goF (wide fr23)
    cases k with
    | false =>
      have h8' : lcL vs τ gt fe (ds.drop (i + 1)) (wipeE E2 vs) = some (rest, Et) := h8
      obtain ⟨okn, _, _⟩ := ok3.wipe fun j hj => sim3.isOwn (uS j hj)
      rw [ewp] at okn
      exact ⟨_, accV, accD, rest, okn, next sim3, fr13, hd3, g3.repL _ _ r, h8', e2⟩
    | true =>
      have h8' : ((fe E2).bind fun s => (lcL vs τ gt fe (ds.drop (i + 1)) (wipeE s.2 vs)).map fun t => (s.1 :: t.1, t.2)) = some (rest, Et) := h8
      obtain ⟨⟨y', E3⟩, h9, h10⟩ := Option.bind_eq_some_iff.mp h8'
      obtain ⟨⟨rest', Et'⟩, h11, h12⟩ := Option.map_eq_some_iff.mp h10
      cases h12
      rw [if_pos rfl]
      refine ⟨Γ, ad, E2, y', E3, ok3, h9, fun u H4 fr4 ok4 sim4 r4 => ?_⟩
      rw [sim3.Wo, wS] at fr4
      rw [sim3.Ao, aS] at r4
      have hd4 : H4 D = some (.lst accV) := fr4.eq D _ hd3 nD
      have g4 := goF (wide fr4)
      have r4' := g4.repL _ _ (g3.repL _ _ r)
      have la := r4'.length
      have le : accD.length + (rest'.length + 1) = accD0.length + ys.length := by
        have := congrArg List.length e2
        simpa [List.length_append] using this
      refine ⟨accV, hd4, by omega, ?_⟩
      have sim34 := sim3.trans sim4
      obtain ⟨okn, _, _⟩ := ok4.wipe fun j hj => sim34.isOwn (uS j hj)
      rw [ewp] at okn
      obtain ⟨okp, gp⟩ := okn.putA (p := D) (o := .lst (accV ++ [u])) hA hW
      rw [simW (next sim34)] at gp
      refine ⟨_, accV ++ [u], accD ++ [y'], rest', okp, next sim34, ?_, upd_same, gp.repL _ _ (r4'.append (repL_cons r4 repL_nil)), h11, by rw [List.append_assoc]; exact e2⟩
      refine ⟨fun a o h n => ?_, fun a h => upd_on ((fr13.trans' (wide fr4)).on a h)⟩
      rw [upd_ne fun z => n (.inr z)]
      exact (fr13.trans' (wide fr4)).eq a o h n
  · rintro H' ⟨Ew, accV, accD, rest, ok, sim, fr, hd, r, e1, e2⟩
    rw [hn, List.drop_length] at e1
    cases e1
    rw [List.append_nil] at e2
    subst e2
    exact q H' accV fr ok sim hd r
def lcL2 (vs vs1 : List Nat) (τ : Tf) (fl1 : Lf) (τ1 : Tf) (gt : Ev Bool) (fe : Ef) : List PyData → Env' → Option (List PyData × Env')
  | [], E => some ([], E)
  | d :: ds, E => (τ d).bind fun as => (fl1 (setE E as)).bind fun r => if vs1.any (fun i => isOwn r.2[i]?) then none else (lcL vs1 τ1 gt fe r.1 (wipeE r.2 vs1)).bind fun s => (lcL2 vs vs1 τ fl1 τ1 gt fe ds (wipeE s.2 vs)).map fun t => (s.1 ++ t.1, t.2)
def fLc2 (vs vs1 : List Nat) (fl : Lf) (τ : Tf) (fl1 : Lf) (τ1 : Tf) (gt : Ev Bool) (fe : Ef) : Lf := fun E => (fl E).bind fun r => if vs.any (fun i => isOwn r.2[i]?) then none else (lcL2 vs vs1 τ fl1 τ1 gt fe r.1 (wipeE r.2 vs)).bind fun t => if t.1.length ≤ sizeLine then some (t.1, backE r.2 t.2 vs) else none
theorem lc2_sound {fl fl1 : Lf} {τ τ1 : Tf} {vs vs1 : List Nat} (ht : TOk io τ) (hv : TIn vs τ) (ht1 : TOk io τ1) (hv1 : TIn vs1 τ1) (hs : ∀ i ∈ vs1, i ∈ vs) {σ : L2.St} {H : Hp} {Q : VK} (w : lD K io (fLc2 vs vs1 fl τ fl1 τ1 gt fe) σ H Q) :
    tLc2 (iD K io fl) (gD K τ) (cD K io gYes) (iD K io fl1) (gD K τ1) (cD K io gt) (tD K io fe) vs vs1 σ H Q := by
  obtain ⟨Γ, ad, E0, ys, E', ok0, he, q⟩ := w
  obtain ⟨⟨ds, E1⟩, h1, h2⟩ := Option.bind_eq_some_iff.mp he
  split at h2
  · cases h2
  rename_i hno
  obtain ⟨⟨ys', Et⟩, h3, h4⟩ := Option.bind_eq_some_iff.mp h2
  split at h4
  case isFalse => cases h4
  rename_i hsz
  cases h4
  have hno' : ∀ i ∈ vs, isOwn E1[i]? = false := fun i hi => by
    cases z : isOwn E1[i]? with
    | false => rfl
    | true => exact absurd (List.any_eq_true.mpr ⟨i, hi, z⟩) hno
  refine ⟨Γ, ad, E0, ds, E1, ok0, h1, fun J n G Y H1 fr1 ok1 sim1 wk hn its D hD => ?_⟩
  have nW : ¬ Γ.W D := fun z => ok1.oA D (ok1.w D z) hD
  have nA1 : ¬ Ao Γ io ad E1 D := fun z => ok1.on D z hD
  obtain ⟨okD, gD0⟩ := ok1.with hD (vs := [])
  obtain ⟨okw, eAw, eWw⟩ := okD.wipe hno'
  have simW : ∀ {Ew : Env'}, Sim (wipeE E1 vs) Ew → Ao (Γ.with D) io ad Ew = Ao (Γ.with D) io ad E1 := fun s => by rw [s.Ao, eAw]
  have simWo : ∀ {Ew : Env'}, Sim (wipeE E1 vs) Ew → Wo (Γ.with D) io ad Ew = Wo Γ io ad E1 := fun s => by rw [s.Wo, eWw]; rfl
  have goD : ∀ {H'}, Frm (Wo Γ io ad E1) H1 H' → Go H1 (Ao Γ io ad E1) H' (Ao (Γ.with D) io ad E1) := fun f => ⟨fun a o h n => f.eq a o h fun z => n (ok1.wa a z), fun a h => by
    rcases h with (h | h) | h
    · exact .inl (.inl h)
    · subst h; exact .inr hD
    · exact .inl (.inr h)⟩
  refine walk_it wk (fun i H' => ∃ Ew accV accD rest, EOk K (Γ.with D) io ad (wipe σ vs) H' Ew ∧ Sim (wipeE E1 vs) Ew ∧ Frm (Wo Γ io ad E1) H1 H' ∧ H' D = some (.lst accV) ∧ RepL K H' (Ao (Γ.with D) io ad E1) accD accV ∧
      lcL2 vs vs1 τ fl1 τ1 gt fe (ds.drop i) Ew = some (rest, Et) ∧ accD ++ rest = ys') ⟨_, [], [], ys', okw, Sim.refl _, (Frm.new hD).of0, upd_same, repL_nil, h3, rfl⟩ ?_ ?_ ?_
  · rintro i H' hi ⟨Ew, accV, accD, rest, ok, sim, fr, hd, r, e1, e2⟩
    exact (its.at_ H' _ (by rw [simW sim]; exact goD fr) ok.on).1
  · rintro i x H' H'' hi ⟨Ew, accV, accD, rest, ok, sim, fr, hd, r, e1, e2⟩ y
    obtain ⟨d, hdd⟩ : ∃ d, ds[i]? = some d := ⟨ds[i]'(by omega), List.getElem?_eq_getElem (by omega)⟩
    obtain ⟨fr2, rd'⟩ := (its.at_ H' _ (by rw [simW sim]; exact goD fr) ok.on).2 i x H'' d hdd y
    rw [drop_at hdd] at e1
    obtain ⟨as, h5, h6⟩ := Option.bind_eq_some_iff.mp e1
    obtain ⟨⟨ds1, E2⟩, h7, h8⟩ := Option.bind_eq_some_iff.mp h6
    split at h8
    · cases h8
    rename_i hno1
    obtain ⟨⟨ys1, Et1⟩, h9, h10⟩ := Option.bind_eq_some_iff.mp h8
    obtain ⟨⟨rest', Et'⟩, h11, h12⟩ := Option.map_eq_some_iff.mp h10
    cases h12
    have hno1' : ∀ i ∈ vs1, isOwn E2[i]? = false := fun i hi => by
      cases z : isOwn E2[i]? with
      | false => rfl
      | true => exact absurd (List.any_eq_true.mpr ⟨i, hi, z⟩) hno1
    refine ⟨_, d, as, rd', h5, fun ws hw => ?_⟩
    have inv := hv d as h5
    have ewp : wipe (setS (wipe σ vs) ws) vs = wipe σ vs := by rw [wipe_setS (setR_slots hw inv), wipe_wipe]
    refine ⟨ewp, ?_⟩
    obtain ⟨ok2, sub⟩ := (ok.new fr2).sets (ht d as h5) hw
    have uW : ∀ j ∈ vs, isOwn Ew[j]? = false := fun j hj => sim.isOwn (by
      rw [wipe_get, if_pos hj]
      cases E1[j]? <;> rfl)
    have uS : ∀ j ∈ vs, isOwn (setE Ew as)[j]? = false := fun j hj => setE_own (uW j hj)
    have oS : Own io ad (setE Ew as) = Own io ad Ew := by
      funext a
      refine propext ⟨sub a, fun ⟨j, m, q1, q2, q3⟩ => ⟨j, m, q1, ?_, q3⟩⟩
      have : j ∉ vs := fun z => by have := uW j z; rw [q2] at this; cases this
      rw [setE_out this inv]
      exact q2
    have aS : Ao (Γ.with D) io ad (setE Ew as) = Ao (Γ.with D) io ad E1 := by
      rw [← simW sim]; funext a; unfold Ao; rw [oS]
    have wS : Wo (Γ.with D) io ad (setE Ew as) = Wo Γ io ad E1 := by
      rw [← simWo sim]; funext a; unfold Wo; rw [oS]
    have next : ∀ {E3 : Env'}, Sim (setE Ew as) E3 → Sim (wipeE E1 vs) (wipeE E3 vs) := fun {E3} s3 => by
      refine ⟨?_, fun j => ?_⟩
      · rw [wipeE_length, s3.1, setE_length, sim.1]
      · by_cases hj : j ∈ vs
        · refine .inr ⟨fun m z => ?_, ?_⟩
          · rw [wipe_get, if_pos hj] at z
            cases hz : E1[j]? with
            | none => rw [hz] at z; cases z
            | some b => rw [hz] at z; cases z
          · rw [wipe_get, wipe_get, if_pos hj, if_pos hj]
            have hl3 : E3.length = E1.length := by rw [s3.1, setE_length, sim.1, wipeE_length]
            by_cases q : j < E1.length
            · rw [List.getElem?_eq_getElem q, List.getElem?_eq_getElem (by omega)] <;> rfl
            · rw [List.getElem?_eq_none (by omega), List.getElem?_eq_none (by omega)] <;> rfl
        · have e0 := setE_out (E := Ew) hj inv
          rcases sim.2 j with ⟨m, m', q1, q2⟩ | ⟨q1, q2⟩
          · rcases s3.2 j with ⟨m2, m3, q3, q4⟩ | ⟨q3, q4⟩
            · exact .inl ⟨m, m3, q1, by rw [wipe_get, if_neg hj]; exact q4⟩
            · rw [e0, q2] at q3; exact absurd rfl (q3 m')
          · refine .inr ⟨q1, ?_⟩
            rw [wipe_get (E := E3), if_neg hj]
            rcases s3.2 j with ⟨m2, m3, q3, q4⟩ | ⟨q3, q4⟩
            · rw [e0, q2] at q3; exact absurd q3 (q1 m2)
            · rw [q4, e0, q2]
    refine ⟨Γ.with D, ad, setE Ew as, true, setE Ew as, ok2, rfl, fun v H3 fr3 ok3 sim3 r3 => ?_⟩
    cases r3
    rw [wS] at fr3
    rw [if_pos rfl]
    refine ⟨Γ.with D, ad, setE Ew as, ds1, E2, ok3, h7, fun J1 n1 G1 Y1 H4 fr4 ok4 sim4 wk1 hn1 its1 => ?_⟩
    rw [wS] at fr4
    have fr24 : Frm (Wo Γ io ad E1) H' H4 := fr2.of0.trans' (fr3.trans' fr4)
    have nD : ¬ Wo Γ io ad E1 D := fun z => nA1 (ok1.wa D z)
    have hd4 : H4 D = some (.lst accV) := fr24.eq D _ hd nD
    have g4 : Go H' (Ao (Γ.with D) io ad E1) H4 (Ao (Γ.with D) io ad E1) := Go.frm fr24 fun a z => (ok1.wa a z).elim (fun z => .inl (.inl z)) .inr
    have a4 : Ao (Γ.with D) io ad E2 = Ao (Γ.with D) io ad E1 := by rw [sim4.Ao, aS]
    have w4 : Wo (Γ.with D) io ad E2 = Wo Γ io ad E1 := by rw [sim4.Wo, wS]
    have le : accD.length + ys1.length ≤ sizeLine := by
      have : (accD ++ (ys1 ++ rest')).length ≤ sizeLine := by rw [e2]; exact hsz
      rw [List.length_append, List.length_append] at this
      omega
    refine lc_core (accV0 := accV) (accD0 := accD) ht1 hv1 ok4 (.inr rfl) nW hno1' wk1 hn1 its1 hd4 (by rw [a4]; exact g4.repL _ _ r) h9 le ?_
    intro H5 accV5 fr5 ok5 sim5 hd5 r5
    rw [w4] at fr5
    rw [a4] at r5
    have e5 : wipe (wipe (setS (wipe σ vs) ws) vs1) vs = wipe σ vs := by rw [wipe_sub hs, ewp]
    have simx : Sim (setE Ew as) E2 := sim4
    have own5 : ∀ j ∈ vs, isOwn Et1[j]? = false := fun j hj => sim5.isOwn (by
      rw [wipe_get]
      by_cases h : j ∈ vs1
      · rw [if_pos h]; cases E2[j]? <;> rfl
      · rw [if_neg h]; exact simx.isOwn (uS j hj))
    obtain ⟨okn, _, _⟩ := ok5.wipe own5
    rw [e5] at okn
    have simn : Sim (wipeE E1 vs) (wipeE Et1 vs) := by
      refine Sim.trans (next simx) ⟨by rw [wipeE_length, wipeE_length, sim5.1, wipeE_length], fun j => ?_⟩
      by_cases hj : j ∈ vs
      · refine .inr ⟨fun m z => ?_, ?_⟩
        · rw [wipe_get, if_pos hj] at z
          cases hz : E2[j]? with
          | none => rw [hz] at z; cases z
          | some b => rw [hz] at z; cases z
        · rw [wipe_get, wipe_get, if_pos hj, if_pos hj]
          have hl3 : Et1.length = E2.length := by rw [sim5.1, wipeE_length]
          by_cases q : j < E2.length
          · rw [List.getElem?_eq_getElem q, List.getElem?_eq_getElem (by omega)] <;> rfl
          · rw [List.getElem?_eq_none (by omega), List.getElem?_eq_none (by omega)] <;> rfl
      · have := sim5.2 j
        rw [wipe_get, if_neg fun z => hj (hs j z)] at this
        rw [wipe_get, wipe_get, if_neg hj, if_neg hj]
        exact this
    refine ⟨_, accV5, accD ++ ys1, rest', okn, simn, ?_, hd5, r5, h11, by rw [List.append_assoc]; exact e2⟩
    have fr14 := fr.trans' fr24
    refine ⟨fun a o h n => ?_, fun a h => fr5.on a (fr14.on a h)⟩
    have ne : a ≠ D := fun z => by subst z; rw [hD] at h; cases h
    exact fr5.eq a o (fr14.eq a o h n) fun z => z.elim n ne
  · rintro H' ⟨Ew, accV, accD, rest, ok, sim, fr, hd, r, e1, e2⟩
    rw [hn, List.drop_length] at e1
    cases e1
    rw [List.append_nil] at e2
    subst e2
    have hlE : Et.length = E1.length := by rw [sim.1, wipeE_length]
    have simE : Sim E1 (backE E1 Et vs) := by
      refine ⟨backE_length hlE vs, fun j => ?_⟩
      rw [backE_get hlE]
      by_cases hj : j ∈ vs
      · rw [if_pos hj]
        exact (Sim.refl E1).2 j
      · rw [if_neg hj]
        have := sim.2 j
        rw [wipe_get, if_neg hj] at this
        exact this
    have aE : Ao (Γ.with D) io ad (backE E1 Et vs) = Ao (Γ.with D) io ad E1 := simE.Ao
    have g := goD fr
    have back : ∀ (j : Nat) (m : M), (backE E1 Et vs)[j]? = some (B.o m) → Et[j]? = some (B.o m) ∧ j ∉ vs := fun j m z => by
      rw [backE_get hlE] at z
      by_cases hj : j ∈ vs
      · rw [if_pos hj] at z
        have := hno' j hj
        rw [z] at this
        cases this
      · rw [if_neg hj] at z
        exact ⟨z, hj⟩
    refine q D accV H' (fr1.trans' (by rw [sim1.Wo] at fr; exact fr)) (frm_none fr1 hD) hd (by rw [r.length]; exact hsz) ?_ (by rw [aE]; exact r) (sim1.trans simE)
    refine ⟨by rw [backE_length hlE]; exact ok1.len, ok.w, ok.oA, ok.hk, fun j d z => ?_, fun j m z => ?_, fun j m z => ok.obi j m (back j m z).1, fun j m z => ok.obn j m (back j m z).1, fun j k m m' z1 z2 => ok.inj j k m m' (back j m z1).1 (back k m' z2).1⟩
    · rw [backE_get hlE] at z
      rw [aE]
      by_cases hj : j ∈ vs
      · rw [if_pos hj] at z
        obtain ⟨v, q1, q2⟩ := ok1.vl j d z
        exact ⟨v, q1, g.rep d v q2⟩
      · rw [if_neg hj] at z
        obtain ⟨v, q1, q2⟩ := ok.vl j d z
        rw [wipe_out hj] at q1
        exact ⟨v, q1, by rw [simW sim] at q2; exact q2⟩
    · obtain ⟨z', hj⟩ := back j m z
      obtain ⟨q1, q2⟩ := ok.ob j m z'
      rw [wipe_out hj] at q1
      exact ⟨q1, by rw [aE, ← simW sim]; exact q2⟩
theorem ll_lc2 {elt tg tg1 iter iter1 : Expr} {ifs1 : List Expr} {pos : Pos} {fl fl1 : Lf} {τ τ1 : Tf} {scope : Scope} {own : List (Str × Nat)} {vs1 : List Nat} (ht : TOk io τ) (hv : TIn (own.map (·.2)) τ) (ht1 : TOk io τ1) (hv1 : TIn vs1 τ1) (hs : ∀ i ∈ vs1, i ∈ own.map (·.2)) (hc : X.calm = true) (hN : X.N.Nodup) (hi : PI X tg iter (iD X.K io fl)) (ok : BlkOk X.N X.env.scope scope own)
    (hg : ∀ (s : Shared) (H : Hp) (C : Addr) (cl : List (Str × Addr)) (fp : List Addr), PG (X.blk s H scope (compEnvC scope cl C X.env) fp) tg (gD X.K τ))
    (hi1 : ∀ (s : Shared) (H : Hp) (C : Addr) (cl : List (Str × Addr)) (fp : List Addr), PI (X.blk s H scope (compEnvC scope cl C X.env) fp) tg1 iter1 (iD X.K io fl1))
    (hg1 : ∀ (s : Shared) (H : Hp) (C : Addr) (cl : List (Str × Addr)) (fp : List Addr), PG (X.blk s H scope (compEnvC scope cl C X.env) fp) tg1 (gD X.K τ1))
    (hts1 : ∀ (s : Shared) (H : Hp) (C : Addr) (cl : List (Str × Addr)) (fp : List Addr), PTs (X.blk s H scope (compEnvC scope cl C X.env) fp) ifs1 (cD X.K io gt))
    (he : ∀ (s : Shared) (H : Hp) (C : Addr) (cl : List (Str × Addr)) (fp : List Addr), PE (X.blk s H scope (compEnvC scope cl C X.env) fp) elt (tD X.K io fe)) (hf : ∀ x, foldedSetIterable iter X.env x = pure x := by intro _; rfl) (hf1 : ∀ (env : Env) (x : Value), foldedSetIterable iter1 env x = pure x := by intro _ _; rfl) :
    PE X (.ListComp elt [⟨tg, iter, [], 0⟩, ⟨tg1, iter1, ifs1, 0⟩] scope pos) (lD X.K io (fLc2 (own.map (·.2)) vs1 fl τ fl1 τ1 gt fe)) := (pe_lc2 hc hN hi ok hs hg (fun _ _ _ _ _ => dts_nil) hi1 hg1 hts1 he hf hf1).imp fun σ H Q w => lc2_sound ht hv ht1 hv1 hs w
end
end DL

namespace DL
open PySem PySem.Spec PyProof.Rows L2
/-! ### texts: split, startswith, str, int of a text, f-strings -/
section
variable {X : Cx} {K : PySem.W.Frag} {io : List Nat} {fa : Ef}
def oSplit : List PyData → Option PyData
  | [.str a, .str b] => if (b.length == 0) = false ∧ a.length + 2 ≤ sizeLine ∧ (Txt.split a b).length ≤ sizeLine ∧ (Txt.split a b).all (fun y => decide (y.length ≤ sizeLine)) = true then some (.list ((Txt.split a b).map .str)) else none
  | _ => none
theorem repL_strs {H : Hp} {A : Addr → Prop} : ∀ {ys : List Str}, ys.all (fun y => decide (y.length ≤ sizeLine)) = true → RepL K H A (ys.map .str) (ys.map V.str)
  | [], _ => repL_nil
  | y :: ys, h => by
    rw [List.all_cons, Bool.and_eq_true] at h
    exact repL_cons (rep_str (of_decide_eq_true h.1)) (repL_strs h.2)
theorem ms_split : MS K (fun x xs H Q => ∃ a b, x = .str a ∧ xs = [.str b] ∧ (b.length == 0) = false ∧ a.length + 2 ≤ sizeLine ∧ rNewStrs (Txt.split a b) H Q) oSplit := by
  refine ⟨fun d ds z h => ?_, fun H A s ds z vs Q hA rs hz k => ?_⟩
  · unfold oSplit at h
    split at h
    · rename_i e; cases e; rfl
    · cases h
  · unfold oSplit at hz
    split at hz
    · rename_i e
      cases e
      split at hz
      · rename_i hc
        cases hz
        obtain ⟨v, e, r⟩ := rs.one
        obtain ⟨e2, _⟩ := r.str
        subst e e2
        refine ⟨_, _, rfl, rfl, hc.1, hc.2.1, fun p hp => k _ _ (Frm.new hp) (rep_newL hA hp (by rw [List.length_map]; exact hc.2.2.1) (repL_strs hc.2.2.2))⟩
      · cases hz
    · cases hz
def oStarts : List PyData → Option PyData
  | [.str a, .str b] => some (.bool (Txt.startswith a b))
  | _ => none
theorem ms_starts : MS K (fun x xs H Q => ∃ a b, x = .str a ∧ xs = [.str b] ∧ Q (.bl (Txt.startswith a b)) H) oStarts := by
  refine ⟨fun d ds z h => ?_, fun H A s ds z vs Q hA rs hz k => ?_⟩
  · unfold oStarts at h
    split at h
    · rename_i e; cases e; rfl
    · cases h
  · unfold oStarts at hz
    split at hz
    · rename_i e
      cases e
      cases hz
      obtain ⟨v, e, r⟩ := rs.one
      obtain ⟨e2, _⟩ := r.str
      subst e e2
      exact ⟨_, _, rfl, rfl, k _ _ Frm.refl rep_bl⟩
    · cases hz
def oStr : List PyData → Option PyData
  | [.str a] => some (.str a)
  | [.int i] => if i.natAbs.log2 < 1920 ∧ (Str.ofString (toString i)).length ≤ sizeLine then some (.str (toString i)) else none
  | _ => none
def rStr : List V → Hp → VK → Prop := fun xs H Q => (∃ a, xs = [.str a] ∧ Q (.str a) H) ∨ ∃ i, xs = [.int i] ∧ i.natAbs.log2 < 1920 ∧ Q (.str (toString i)) H
theorem call_str : CallR X (.type "str") rStr := fun pins s σ H xs us Q I rv h => h.elim (fun h => SkE.call_str_str pins s σ H xs us Q I rv h) fun h => call_str_int pins s σ H xs us Q I rv h
theorem cs_str : CS K rStr oStr := by
  intro H A ds z vs Q hA rs hz k
  unfold oStr at hz
  split at hz
  · cases hz
    obtain ⟨v, e, r⟩ := rs.one
    cases r with
    | d r =>
      have r' := r
      unfold RepD at r'
      obtain ⟨e2, hl⟩ := r'
      subst e e2
      exact .inl ⟨_, rfl, k _ _ Frm.refl (rep_str hl)⟩
  · split at hz
    · rename_i hc
      cases hz
      obtain ⟨v, e, r⟩ := rs.one
      cases r.int
      subst e
      exact .inr ⟨_, rfl, hc.1, k _ _ Frm.refl (rep_str hc.2)⟩
    · cases hz
  · cases hz
def oIntX : List PyData → Option PyData
  | [.str a] => match intText? a with
    | some n => if a.length ≤ 640 then some (.int n) else none
    | none => none
  | ds => oInt ds
def rIntX : List V → Hp → VK → Prop := fun xs H Q => ((∃ i, xs = [.int i] ∧ Q (.int i) H) ∨ ∃ k, xs = [.bl k] ∧ Q (.int (if k then 1 else 0)) H) ∨ ∃ a n, xs = [.str a] ∧ intText? a = some n ∧ a.length ≤ 640 ∧ Q (.int n) H
theorem call_intX : CallR X (.type "int") rIntX := fun pins s σ H xs us Q I rv h => h.elim (fun h => call_int1 pins s σ H xs us Q I rv h) fun h => call_int_str pins s σ H xs us Q I rv h
theorem cs_intX : CS K rIntX oIntX := by
  intro H A ds z vs Q hA rs hz k
  unfold oIntX at hz
  split at hz
  · split at hz
    · rename_i n hn
      split at hz
      · rename_i hl
        cases hz
        obtain ⟨v, e, r⟩ := rs.one
        obtain ⟨e2, _⟩ := r.str
        subst e e2
        exact .inr ⟨_, _, rfl, hn, hl, k _ _ Frm.refl rep_int⟩
      · cases hz
    · cases hz
  · exact .inl (cs_int H A ds z vs Q hA rs hz k)
/-- f"..{x}.." -/
def fFmt (fa : Ef) : Ef := f1 (fun d => match d with
  | .str y => some (.str y)
  | .int i => if i.natAbs.log2 < 1920 ∧ (Str.ofString (toString i)).length ≤ sizeLine then some (.str (toString i)) else none
  | _ => none) fa
theorem de_fmt {e : Expr} {pos : Pos} (h : PE X e (tD X.K io fa)) : PE X (.FormattedValue e (-1) none pos) (tD X.K io (fFmt fa)) := (pe_fmt h).imp fun σ H Q w => by
  obtain ⟨Γ, ad, E, z, E', ok, he, q⟩ := w
  obtain ⟨⟨d, E1⟩, h1, h2⟩ := Option.bind_eq_some_iff.mp he
  obtain ⟨z', h3, h4⟩ := Option.map_eq_some_iff.mp h2
  cases h4
  refine ⟨Γ, ad, E, d, E1, ok, h1, fun v H1 fr1 ok1 sim1 r1 => ?_⟩
  cases d with
  | str y =>
    cases h3
    have r' := r1
    unfold RepD at r'
    obtain ⟨e2, hl⟩ := r'
    subst e2
    exact .inl ⟨_, rfl, hl, q _ H1 fr1 ok1 sim1 r1⟩
  | int i =>
    have h3' : (if i.natAbs.log2 < 1920 ∧ (Str.ofString (toString i)).length ≤ sizeLine then some (PyData.str (toString i)) else none) = some z := h3
    split at h3'
    · rename_i hc
      cases h3'
      have e1 : v = .int i := by unfold RepD at r1; exact r1
      subst e1
      exact .inr ⟨_, rfl, hc.1, q _ H1 fr1 ok1 sim1 (rep_str hc.2)⟩
    · cases h3'
  | _ => cases h3
def fJoin : List Ef → Str → Ev Str
  | [], acc, E => some (acc, E)
  | f :: fs, acc, E => (f E).bind fun r => match r.1 with
    | .str y => if (acc ++ y).length ≤ sizeLine then fJoin fs (acc ++ y) r.2 else none
    | _ => none
def fFstr (fs : List Ef) : Ef := fun E => (fJoin fs Str.empty E).map fun r => (.str r.1, r.2)
theorem fstr_run {Γ : Gm} {ad : Nat → Addr} {σ : L2.St} : ∀ {fs : List Ef} {acc : Str} {H : Hp} {E E' : Env'} {out : Str} {Q : Str → Hp → Prop}, EOk K Γ io ad σ H E → fJoin fs acc E = some (out, E') →
    (∀ H', Frm (Wo Γ io ad E) H H' → EOk K Γ io ad σ H' E' → Sim E E' → (fs ≠ [] → out.length ≤ sizeLine) → Q out H') → tJs (fs.map (tD K io)) acc σ H Q
  | [], acc, H, E, E', out, Q, ok, he, q => by
    cases he
    rw [List.map_nil, tJs.eq_1]
    exact q H Frm.refl ok (Sim.refl E) fun h => absurd rfl h
  | f :: fs, acc, H, E, E', out, Q, ok, he, q => by
    obtain ⟨⟨d, E1⟩, h1, h2⟩ := Option.bind_eq_some_iff.mp he
    rw [List.map_cons, tJs.eq_2]
    refine ⟨Γ, ad, E, d, E1, ok, h1, fun v H1 fr1 ok1 sim1 r1 => ?_⟩
    cases d with
    | str y =>
      have h2' : (if (acc ++ y).length ≤ sizeLine then fJoin fs (acc ++ y) E1 else none) = some (out, E') := h2
      split at h2'
      · rename_i hl
        have e1 : v = .str y := by unfold RepD at r1; exact r1.1
        subst e1
        refine ⟨y, rfl, hl, fstr_run ok1 h2' fun H2 fr2 ok2 sim2 hz => ?_⟩
        rw [sim1.Wo] at fr2
        refine q H2 (fr1.trans' fr2) ok2 (sim1.trans sim2) fun _ => ?_
        by_cases hf : fs = []
        · subst hf; cases h2'; exact hl
        · exact hz hf
      · cases h2'
    | _ => cases h2
theorem de_fstr {v1 v2 : Expr} {rest : List Expr} {fs : List Ef} {pos : Pos} (h : PJ X (v1 :: v2 :: rest) (fs.map (tD X.K io))) (hf : fs ≠ [] := by simp) : PE X (.JoinedStr (v1 :: v2 :: rest) pos) (tD X.K io (fFstr fs)) := (pe_joined h).imp fun σ H Q w => by
  obtain ⟨Γ, ad, E, z, E', ok, he, q⟩ := w
  obtain ⟨⟨out, E1⟩, h1, h2⟩ := Option.map_eq_some_iff.mp he
  cases h2
  exact fstr_run ok h1 fun H' fr ok' sim hz => q _ H' fr ok' sim (rep_str (hz hf))
theorem pj_c {e : Expr} {es : List Expr} {f : Ef} {fs : List Ef} (h : PE X e (tD X.K io f)) (t : PJ X es (fs.map (tD X.K io))) : PJ X (e :: es) ((f :: fs).map (tD X.K io)) := .cons h t
theorem pj_n : PJ X [] (([] : List Ef).map (tD X.K io)) := .nil
end
end DL

namespace DL
open PySem PySem.Spec PyProof.Rows L2
/-! ### x += e -/
section
variable {X : Cx} {K : PySem.W.Frag} {io : List Nat} {fa : Ef}
theorem icat_tup {prog : Program} {w : World} {A : Around} {E : Value → Shared → Prop} {s : Shared} {t b : Addr} {vs ws : List Value} {Q : Value → Shared → Prop} (ht : IsTup s.heap t vs.toArray) (hb : IsTup s.heap b ws.toArray)
    (h0 : vs = [] → Q (.ref b) s) (h1 : vs ≠ [] → ws = [] → Q (.ref t) s) (h2 : vs ≠ [] → ws ≠ [] → Q (.ref s.heap.objs.size) { heap := s.heap.push { cls := .type "tuple", data := .seq (vs ++ ws).toArray }, gens := s.gens, drawn := s.drawn, toks := s.toks, os := s.os })
    (hsz : vs.length + ws.length ≤ sizeLine) : wpAny (model prog w) A (inplaceOp .Add (.ref t) (.ref b)) Q E s := by
  refine wpAny_inplaceOp_concat (T := "tuple") (IsTup.typeIs ht) (IsTup.typeIs hb) (by rfl) noFill_tuple_add seq_tuple_add ?_
  obtain ⟨⟨cls, dd, data, sl⟩, ho, hc, n, hd⟩ := ht
  obtain ⟨⟨cls2, dd2, data2, sl2⟩, ho2, hc2, n2, hd2⟩ := hb
  cases hc; cases hd; cases hc2; cases hd2
  have ty : s.TypeIs (.ref t) "tuple" := ⟨_, ho, rfl⟩
  have go : ∀ S : PySem.Spec, Meets (Builtin.«tuple.__add__» { pos := [.ref t, .ref b] }) S → S A (wants Q E) s → wpAny (model prog w) A (call (.builtin "tuple.__add__") [.ref t, .ref b]) Q E s := fun S m h => call_meets F.slot_tuple_add ty F.entry_tuple_add (F.args_tuple_add_2 _ _) m h
  by_cases hv : vs = []
  · exact go _ (tuple_addW0 t b vs.toArray ws.toArray n n2 dd dd2 sl sl2 (by subst hv; rfl)) ⟨ho, ho2, h0 hv⟩
  · by_cases hw : ws = []
    · exact go _ (tuple_addW1 t b vs.toArray ws.toArray n n2 dd dd2 sl sl2 (by simpa using hv) (by subst hw; rfl)) ⟨ho, ho2, h1 hv hw⟩
    · exact go _ (tuple_addW2 t b vs.toArray ws.toArray n n2 dd dd2 sl sl2 (by simpa using hv) (by simpa using hw) (by rw [List.size_toArray, List.size_toArray]; exact hsz)) ⟨ho, ho2, by
        have e : vs.toArray ++ ws.toArray = (vs ++ ws).toArray := by simp
        rw [e]
        exact h2 hv hw⟩
def rAddI (K : PySem.W.Frag) : TIp := fun x y H Q => (∃ i j, x = .int i ∧ y = .int j ∧ Q (.int (i + j)) H) ∨ rCatA K x y H Q
theorem ip_addX : PIp X .Add (rAddI X.K) := by
  intro pins s σ H x y v u Q I rx ry h
  rcases h with h | h
  · exact ip_add pins s σ H x y v u Q I rx ry h
  · obtain ⟨a, b, xs, ys, rfl, rfl, ha, hb, hz, q0, q1, q2⟩ := h
    cases rx
    cases ry
    obtain ⟨its, r1, p1, _⟩ := I.tuple ha
    obtain ⟨its2, r2, p2, _⟩ := I.tuple hb
    refine icat_tup p1 p2 (fun z => ⟨.ref b, H, I, rfl, q0 ((Vals.nil_iff r1).mp z)⟩) (fun z z2 => ⟨.ref a, H, I, rfl, q1 (fun w => z ((Vals.nil_iff r1).mpr w)) ((Vals.nil_iff r2).mp z2)⟩) (fun z z2 => ?_) (by rw [← r1.length, ← r2.length]; exact hz)
    exact ⟨.ref s.heap.objs.size, upd H s.heap.objs.size (HO.tup (xs ++ ys)), Inv.laid I (fun b ob q => Heap.get?_push_of_some _ q) (Nat.le_refl _) ⟨by rw [List.length_append]; exact hz, its ++ its2, r1.append r2, IsTup.new s.heap (its ++ its2).toArray⟩, rfl,
      q2 (fun w => z ((Vals.nil_iff r1).mpr w)) (fun w => z2 ((Vals.nil_iff r2).mpr w)) s.heap.objs.size (HOk.fresh I.hok (Nat.le_refl _))⟩
def oAddI : PyData → PyData → Option PyData
  | .int i, .int j => some (.int (i + j))
  | .tuple xs, .tuple ys => if xs.length + ys.length ≤ sizeLine then some (.tuple (xs ++ ys)) else none
  | _, _ => none
theorem rs_addI : RS K (rAddI K) oAddI := by
  intro H A x y z vx vy Q hA rx ry hz k
  unfold oAddI at hz
  split at hz
  · cases hz; cases rx.int; cases ry.int
    exact .inl ⟨_, _, rfl, rfl, k _ _ Frm.refl rep_int⟩
  · split at hz
    · rename_i xs ys hl
      cases hz
      obtain ⟨a, vs, e1, t1, z1, r1⟩ := rx.tup
      obtain ⟨b, ws, e2, t2, z2, r2⟩ := ry.tup
      subst e1 e2
      have l1 := r1.length
      have l2 := r2.length
      refine .inr ⟨a, b, vs, ws, rfl, rfl, t1.sq, t2.sq, by omega, fun hv => ?_, fun _ hw => ?_, fun _ _ p hp => ?_⟩
      · subst hv
        have : xs = [] := List.length_eq_zero_iff.mp l1.symm
        subst this
        exact k _ _ Frm.refl (rep_tup t2 z2 r2)
      · subst hw
        have : ys = [] := List.length_eq_zero_iff.mp l2.symm
        subst this
        rw [List.append_nil] at k
        exact k _ _ Frm.refl (rep_tup t1 z1 r1)
      · exact k _ _ (Frm.new hp) (rep_newT hA hp (by rw [List.length_append]; omega) (r1.append r2))
    · cases hz
  · cases hz
theorem ds_aug {i : Nat} {x : Str} {e : Expr} {p pos : Pos} (hi : i ∉ io) (h : PE X e (tD X.K io fa) → PS X (.AugAssign (.Name x p) .Add e pos) (tAug i (tD X.K io fa) (rAddI X.K))) (he : PE X e (tD X.K io fa)) : PS X (.AugAssign (.Name x p) .Add e pos) (sD X.K io (sAsg (f2 oAddI (fV i) fa) (τN i))) := (h he).imp fun Dn σ H w => by
  have w1 := sD_asg (tok_n hi) w
  have w2 := td2 (X := X) rs_addI w1
  obtain ⟨Γ, ad, E, d, E', ok, h1, q⟩ := w2
  unfold fV at h1
  split at h1
  · rename_i d' hd
    cases h1
    obtain ⟨v, hv, hr⟩ := ok.vl i d hd
    have q' := q v H Frm.refl ok (Sim.refl E) hr
    refine ⟨v, hv, ?_⟩
    obtain ⟨Γ, ad, E1, d1, E2, ok1, h2, q2⟩ := q'
    refine ⟨Γ, ad, E1, d1, E2, ok1, h2, fun u H1 fr1 ok2 sim2 r2 => ?_⟩
    have z := q2 u H1 fr1 ok2 sim2 r2
    rcases z with ⟨i', j', e1, e2, z⟩ | ⟨a, b, xs, ys, e1, e2, t1, t2, hz, z0, z1, z2⟩
    · exact .inl ⟨i', j', e1, e2, gD_name z⟩
    · exact .inr ⟨a, b, xs, ys, e1, e2, t1, t2, hz, fun w => gD_name (z0 w), fun w w2 => gD_name (z1 w w2), fun w w2 p hp => gD_name (z2 w w2 p hp)⟩
  · cases h1
end
end DL

namespace DL
open PySem PySem.Spec PyProof.Rows L2
/-! ### what is told by a test: new lists; own lists given out -/
section
variable {X : Cx} {K : PySem.W.Frag} {io : List Nat} {fa fe : Ef} {ga gt : Ev Bool} {fl gl : Lf}
def lIf (gc : Ev Bool) (fa fb : Lf) : Lf := fun E => (gc E).bind fun r => if r.1 = true then fa r.2 else fb r.2
theorem ll_if {a b c : Expr} {pos : Pos} (hc : PT X c (cD X.K io ga)) (ha : PE X a (lD X.K io fl)) (hb : PE X b (lD X.K io gl)) : PE X (.IfExp c a b pos) (lD X.K io (lIf ga fl gl)) := (pe_ifExp hc ha hb).imp fun σ H Q w => by
  show cD X.K io ga σ H fun c H1 => if c = true then lD X.K io fl σ H1 Q else lD X.K io gl σ H1 Q
  obtain ⟨Γ, ad, E, ds, E', ok, he, q⟩ := w
  obtain ⟨⟨x, E1⟩, h1, h2⟩ := Option.bind_eq_some_iff.mp he
  refine ⟨Γ, ad, E, x, E1, ok, h1, fun v H1 fr1 ok1 sim1 r1 => ?_⟩
  cases r1
  have go : ∀ {f : Lf}, f E1 = some (ds, E') → lD X.K io f σ H1 Q := fun h => ⟨Γ, ad, E1, ds, E', ok1, h, fun p vs H' fr hp hl hz ok' r sim => q p vs H' (fr1.trans' (by rw [sim1.Wo] at fr; exact fr)) (frm_none fr1 hp) hl hz ok' r (sim1.trans sim)⟩
  cases x with
  | true => exact go h2
  | false => exact go h2
theorem sD_ret {Dn : Ends} {σ : L2.St} {H : Hp} (w : sD K io (sRet fa) Dn σ H) : tRet (tD K io fa) Dn σ H := by
  obtain ⟨Γ, ad, E, o, ok, he, p⟩ := w
  obtain ⟨⟨d, E1⟩, h1, h2⟩ := Option.map_eq_some_iff.mp he
  cases h2
  exact ⟨Γ, ad, E, d, E1, ok, h1, fun v H' fr ok' sim r => p v σ H' ad (Step.sim fr sim) ok' ((Go.less ao_A).rep d v r)⟩
theorem sD_retO {i : Nat} (hio : i ∉ io) {Dn : Ends} {σ : L2.St} {H : Hp} (w : sD K io (sRetO i) Dn σ H) : tRet (tVar i) Dn σ H := by
  obtain ⟨Γ, ad, E, o, ok, he, p⟩ := w
  unfold sRetO at he
  split at he
  · rename_i xs hd
    cases he
    obtain ⟨h1, vs, h2, h3, h4⟩ := ok.ob i _ hd
    refine ⟨_, h1, p _ σ H ad (Step.sim Frm.refl (Sim.refl E)) ok ?_⟩
    exact rep_lst ⟨(ok.obn i _ hd hio).2, .inl h2⟩ h3 ((Go.less ao_A).repL xs vs h4)
  · cases he
/-- return e if c else own -/
theorem ds_retIfO {i : Nat} {a b c : Expr} {pos pos' : Pos} (hio : i ∉ io) (hc : PT X c (cD X.K io ga)) (ha : PE X a (tD X.K io fa)) (hb : PE X b (tVar i)) : PS X (.Return (some (.IfExp c a b pos)) pos') (sD X.K io (sIf ga (sRet fa) (sRetO i))) := (ps_ret (pe_ifExp hc ha hb)).imp fun Dn σ H w => by
  show cD X.K io ga σ H fun c H1 => if c = true then tRet (tD X.K io fa) Dn σ H1 else tRet (tVar i) Dn σ H1
  obtain ⟨Γ, ad, E, o, ok, he, p⟩ := w
  obtain ⟨⟨k, E1⟩, h1, h2⟩ := Option.bind_eq_some_iff.mp he
  refine ⟨Γ, ad, E, k, E1, ok, h1, fun v H' fr ok' sim r => ?_⟩
  cases r
  cases k with
  | true => exact sD_ret ⟨Γ, ad, E1, o, ok', h2, p.after (Step.sim fr sim)⟩
  | false => exact sD_retO hio ⟨Γ, ad, E1, o, ok', h2, p.after (Step.sim fr sim)⟩
/-- y = [e for a in x for b in y] -/
theorem ds_setLc2V {i : Nat} {y : Str} {py : Pos} {elt tg tg1 iter iter1 : Expr} {ifs1 : List Expr} {pos spos : Pos} {fl fl1 : Lf} {τ τ1 : Tf} {scope : Scope} {own : List (Str × Nat)} {vs1 : List Nat} (hi' : i ∉ io) (hy : X.N[i]? = some y) (hyl : X.env.scope.names.lookup y = some .local)
    (hsw : swapsWith (.ListComp elt [⟨tg, iter, [], 0⟩, ⟨tg1, iter1, ifs1, 0⟩] scope pos) (some (.Name y py)) spos.line X.env = pure true)
    (ht : TOk io τ) (hv : TIn (own.map (·.2)) τ) (ht1 : TOk io τ1) (hv1 : TIn vs1 τ1) (hs : ∀ i ∈ vs1, i ∈ own.map (·.2)) (hc : X.calm = true) (hN : X.N.Nodup) (hi : PI X tg iter (iD X.K io fl)) (ok : BlkOk X.N X.env.scope scope own)
    (hg : ∀ (s : Shared) (H : Hp) (C : Addr) (cl : List (Str × Addr)) (fp : List Addr), PG (X.blk s H scope (compEnvC scope cl C X.env) fp) tg (gD X.K τ))
    (hi1 : ∀ (s : Shared) (H : Hp) (C : Addr) (cl : List (Str × Addr)) (fp : List Addr), PI (X.blk s H scope (compEnvC scope cl C X.env) fp) tg1 iter1 (iD X.K io fl1))
    (hg1 : ∀ (s : Shared) (H : Hp) (C : Addr) (cl : List (Str × Addr)) (fp : List Addr), PG (X.blk s H scope (compEnvC scope cl C X.env) fp) tg1 (gD X.K τ1))
    (hts1 : ∀ (s : Shared) (H : Hp) (C : Addr) (cl : List (Str × Addr)) (fp : List Addr), PTs (X.blk s H scope (compEnvC scope cl C X.env) fp) ifs1 (cD X.K io gt))
    (he : ∀ (s : Shared) (H : Hp) (C : Addr) (cl : List (Str × Addr)) (fp : List Addr), PE (X.blk s H scope (compEnvC scope cl C X.env) fp) elt (tD X.K io fe)) (hf : ∀ x, foldedSetIterable iter X.env x = pure x := by intro _; rfl) (hf1 : ∀ (env : Env) (x : Value), foldedSetIterable iter1 env x = pure x := by intro _ _; rfl) :
    PS X (.Assign [.Name y py] (.ListComp elt [⟨tg, iter, [], 0⟩, ⟨tg1, iter1, ifs1, 0⟩] scope pos) spos) (sD X.K io (sAsg (vL (fLc2 (own.map (·.2)) vs1 fl τ fl1 τ1 gt fe)) (τN i))) :=
  (ps_setLc2 hc hN hy hyl hsw hi ok hs hg (fun _ _ _ _ _ => dts_nil) hi1 hg1 hts1 he hf hf1).imp fun Dn σ H w => by
    have w' := sD_vl (tok_n hi') w
    refine lc2_sound ht hv ht1 hv1 hs ?_
    obtain ⟨Γ, ad, E, ds, E', ok, h1, q⟩ := w'
    exact ⟨Γ, ad, E, ds, E', ok, h1, fun p vs H' a1 a2 a3 a4 a5 a6 a7 => gD_name (q p vs H' a1 a2 a3 a4 a5 a6 a7)⟩
/-- what is never reached -/
def sNever : Sf := fun _ => none
theorem ds_never {st : Stmt} : PS X st (sD X.K io sNever) := ps_never.imp fun Dn σ H w => by
  obtain ⟨Γ, ad, E, o, ok, he, p⟩ := w
  cases he
/-- xs.pop(e), told to nobody -/
theorem repL_erase {H : Hp} {A : Addr → Prop} : ∀ {xs : List PyData} {vs : List V} {k : Nat}, RepL K H A xs vs → RepL K H A (xs.eraseIdx k) (vs.eraseIdx k)
  | [], vs, k, h => by unfold RepL at h; subst h; exact repL_nil
  | x :: xs, vs, k, h => by
    unfold RepL at h
    obtain ⟨v, r, e, h1, h2⟩ := h
    subst e
    cases k with
    | zero => exact h2
    | succ k => exact repL_cons h1 (repL_erase h2)
def sPop (i : Nat) (fa : Ef) : Sf := fun E => (getO i E).bind fun _ => (fa E).bind fun r => (getO i r.2).bind fun xs => match r.1 with
  | .int k => if -(2 ^ 63) ≤ k ∧ k < 2 ^ 63 then (seqIndex? k xs.length).bind fun j => if j < xs.length then some (.nx (r.2.set i (B.o (.lst (xs.eraseIdx j))))) else none else none
  | _ => none
theorem ds_pop {i : Nat} {x e : Expr} {st : Stmt} (hx : PE X x (tVar i)) (he : PE X e (tD X.K io fa)) (h : PE X e (tD X.K io fa) → PS X st (tDrop (tBM X.K "list" rPopAt (tVar i) (tCons (tD X.K io fa) tNil)))) : PS X st (sD X.K io (sPop i fa)) := (h he).imp fun Dn σ H w => by
  obtain ⟨Γ, ad, E, o, ok, he, p⟩ := w
  obtain ⟨xs0, h0, he⟩ := Option.bind_eq_some_iff.mp he
  obtain ⟨⟨d, E1⟩, h1, h2⟩ := Option.bind_eq_some_iff.mp he
  obtain ⟨xs, h3, h4⟩ := Option.bind_eq_some_iff.mp h2
  cases d with
  | int k =>
    have h4' : (if -(2 ^ 63) ≤ k ∧ k < 2 ^ 63 then (seqIndex? k xs.length).bind fun j => if j < xs.length then some (O.nx (E1.set i (B.o (.lst (xs.eraseIdx j))))) else none else none) = some o := h4
    split at h4'
    · rename_i hk
      obtain ⟨j, h5, h6⟩ := Option.bind_eq_some_iff.mp h4'
      split at h6
      · rename_i hj
        cases h6
        obtain ⟨e1, vs0, q1, q2, q3⟩ := ok.getO h0
        refine ⟨_, e1, .inl ⟨rfl, vs0, .inl (.inl q1)⟩, Γ, ad, E, .int k, E1, ok, h1, fun v H' fr ok' sim r => ?_⟩
        obtain ⟨e2, vs, z1, z2, z3⟩ := ok'.getO h3
        have ev : v = .int k := by unfold RepD at r; exact r
        subst ev
        have lv := z3.length
        have hj' : j < vs.length := by omega
        refine ⟨_, vs, k, j, vs[j], rfl, rfl, z1, hk.1, hk.2, by rw [lv]; exact h5, List.getElem?_eq_getElem hj', ?_⟩
        obtain ⟨ok2, fr2, sim2⟩ := ok'.put (vs := vs.eraseIdx j) (xs := xs.eraseIdx j) (getO_at h3) (Nat.le_trans (List.length_eraseIdx_le _ _) z2) (repL_erase z3)
        rw [sim.Wo] at fr2
        exact p σ _ ad (Step.sim (fr.trans' fr2) (sim.trans sim2)) ok2
      · cases h6
    · cases h4'
  | _ => cases h4
end
end DL

namespace DL
open PySem PySem.Spec PyProof.Rows L2
/-! ### -x; x not in (lists); counts in a table of texts -/
section
variable {X : Cx} {K : PySem.W.Frag} {io : List Nat} {fa : Ef}
def oNeg : PyData → Option PyData
  | .int i => some (.int (-i))
  | _ => none
def rNegI : V → Hp → VK → Prop := fun x H Q => ∃ i, x = .int i ∧ Q (.int (-i)) H
theorem us_neg : US K rNegI oNeg := by
  intro H A x z vx Q hA rx hz k
  unfold oNeg at hz
  split at hz
  · cases hz
    cases rx.int
    exact ⟨_, rfl, k _ _ Frm.refl rep_int⟩
  · cases hz
theorem de_neg {a : Expr} {pos : Pos} (h : PE X a (tD X.K io fa)) : PE X (.UnaryOp .USub a pos) (tD X.K io (f1 oNeg fa)) := (pe_un un_neg h).imp fun σ H Q w => td1 (r := rNegI) us_neg w
def oNotInL : PyData → PyData → Option PyData
  | x, .tuple ys => if SeqAt.shaped x && PyData.canLayAll0 ys then some (.bool (!ys.any fun y => PyData.eqv y x)) else none
  | _, _ => none
def rNotInL (K : PySem.W.Frag) : R2 := fun x y H Q => ∃ d ds, Dp K H x d ∧ Dp K H y (.tuple ds) ∧ SeqAt.shaped d = true ∧ PyData.canLayAll0 ds = true ∧ Q (.bl (!ds.any fun y => PyData.eqv y d)) H
theorem op_notInL (hu : X.A.units + 65 < cLine) : OpR X (compareOp .NotIn) (rNotInL X.K) := by
  intro pins s σ H x y v u Q I rx ry h
  obtain ⟨d, ds, h1, h2, h3, h4, q⟩ := h
  obtain ⟨as, r1⟩ := L2.Dp.reads I _ _ _ h1 rx
  obtain ⟨bs, r2⟩ := L2.Dp.reads I _ _ _ h2 ry
  exact SeqAt.notIn_tuple_reads r2 r1 h4 (SeqAt.canLay_of_shaped h3) (PyProof.Rows.room_in_shaped h3 hu) ⟨.bl _, H, I, rfl, q⟩
theorem rs_notInL : RS K (rNotInL K) oNotInL := by
  intro H A x y z vx vy Q hA rx ry hz k
  unfold oNotInL at hz
  split at hz
  · split at hz
    · rename_i hc
      cases hz
      obtain ⟨h1, h2⟩ := Bool.and_eq_true_iff.mp hc
      exact ⟨_, _, rx.dp (SeqAt.canLay_of_shaped h1), ry.dp (by simpa [PyData.canLay0] using h2), h1, h2, k _ _ Frm.refl rep_bl⟩
    · cases hz
  · cases hz
end
end DL

namespace DL
open PySem PySem.Spec PyProof.Rows L2
/-! ### a list or a tuple is walked over -/
section
variable {X : Cx} {K : PySem.W.Frag} {io : List Nat} {fa : Ef} {tg a : Expr}
def iSeq (K : PySem.W.Frag) (tl : TE) : TI := fun σ H R => tl σ H fun x H1 => ∃ a, x = .ref a ∧ (((∃ xs, SqL K H1 a xs) ∧ R (Itl K a) H1) ∨ ((∃ xs, SqT K H1 a xs) ∧ R (Itt K a) H1))
theorem pi_seq {l : Expr} {tl : TE} (hl : PE X l tl) : PI X tg l (iSeq X.K tl) where
  run := fun pins s σ H R I h => by
    refine thn (hl.run pins s σ H _ I h) ?_
    rintro v s1 ⟨x, H1, I1, r1, b, rfl, h⟩
    cases r1
    have fp : ∀ b', b' ∈ [s1.heap.objs.size] → FpOk X pins H1 b' := fun b' hb => by
      cases List.mem_singleton.mp hb
      exact Inv.fpOk I1 (Nat.le_refl _) (HOk.fresh I1.hok (Nat.le_refl _))
    rcases h with ⟨⟨xs, hq⟩, q⟩ | ⟨⟨xs, hq⟩, q⟩
    · obtain ⟨its, rv, p, hz⟩ := I1.list hq
      exact wpAny_pyIter_list p.isList ⟨s1.heap.objs.size, [s1.heap.objs.size], fun i h => h.IsListIter s1.heap.objs.size b i, Itl X.K b, H1, rfl, I1.kept fun b' o e => Heap.get?_push_of_some _ e, turn_list b s1.heap.objs.size, ⟨_, Heap.get?_push_size s1.1 rfl, rfl, rfl⟩, fp, q⟩
    · obtain ⟨its, rv, p, hz⟩ := I1.tuple hq
      exact wpAny_pyIter_tuple p ⟨s1.heap.objs.size, [s1.heap.objs.size], fun i h => h.IsTupleIter s1.heap.objs.size b i, Itt X.K b, H1, rfl, I1.kept fun b' o e => Heap.get?_push_of_some _ e, turn_tuple b s1.heap.objs.size, ⟨_, Heap.get?_push_size s1.1 rfl, rfl, rfl⟩, fp, q⟩
def itQ : PyData → Option (List PyData)
  | .list xs => some xs
  | .tuple xs => some xs
  | _ => none
theorem di_seq (ha : PE X a (tD X.K io fa)) : PI X tg a (iD X.K io (f1 itQ fa)) := (pi_seq ha).imp fun σ H R w => by
  obtain ⟨Γ, ad, E, ds, E', ok, he, q⟩ := w
  obtain ⟨⟨d, E1⟩, h1, h2⟩ := Option.bind_eq_some_iff.mp he
  obtain ⟨z, h3, h4⟩ := Option.map_eq_some_iff.mp h2
  cases h4
  refine ⟨Γ, ad, E, d, E1, ok, h1, fun v H' fr ok' sim r => ?_⟩
  cases d with
  | list xs =>
    cases h3
    obtain ⟨p, vs, e, t, hz, r'⟩ := r.lst
    subst e
    refine ⟨p, rfl, .inl ⟨⟨vs, t.sq⟩, q _ _ _ _ H' fr ok' sim walk_list r'.length ⟨by rw [← r'.length]; exact hz, fun H2 A2 g hA => ?_⟩⟩⟩
    rw [sim.Ao] at g
    refine ⟨(g.lst t).sq, fun i x H3 d hd y => ?_⟩
    obtain ⟨e, y⟩ := y
    subst e
    obtain ⟨v, h1, h2⟩ := (g.repL _ _ r').get hd
    rw [y] at h1
    cases h1
    exact ⟨Frm.refl, h2⟩
  | tuple xs =>
    cases h3
    obtain ⟨p, vs, e, t, hz, r'⟩ := r.tup
    subst e
    refine ⟨p, rfl, .inr ⟨⟨vs, t.sq⟩, q _ _ _ _ H' fr ok' sim walk_tup r'.length ⟨by rw [← r'.length]; exact hz, fun H2 A2 g hA => ?_⟩⟩⟩
    rw [sim.Ao] at g
    refine ⟨(g.tup t).sq, fun i x H3 d hd y => ?_⟩
    obtain ⟨e, y⟩ := y
    subst e
    obtain ⟨v, h1, h2⟩ := (g.repL _ _ r').get hd
    rw [y] at h1
    cases h1
    exact ⟨Frm.refl, h2⟩
  | _ => cases h3
end
end DL

open PySem PySem.Spec PyProof.Rows L2
namespace DL
theorem zipM_next_item {prog : Program} {w : World} {A : Around} {E : Value → Shared → Prop} {s : Shared} {z TI TO i1 i2 l1 l2 : Addr} {k1 k2 : Nat} {xs ys : Array Value} {x y a b : Value} {Q : Value → Shared → Prop} (D : ZipApart z TI TO i1 i2 l1 l2) (hz : IsZip s.heap z TI TO Value.none)
    (hTI : IsPair s.heap TI (.ref i1) (.ref i2)) (hTO : IsPair s.heap TO a b) (h1 : s.heap.IsTupleIter i1 l1 k1) (h2 : s.heap.IsListIter i2 l2 k2) (hl1 : s.heap.IsTuple l1 xs) (hl2 : s.heap.IsList l2 ys) (hx : xs[k1]? = some x) (hy : ys[k2]? = some y)
    (hQ : ∀ h' : Heap, IsZip h' z TI TO (rawInt s.heap.objs.size) → IsPair h' TO x y → h'.IsTupleIter i1 l1 (k1 + 1) → h'.IsListIter i2 l2 (k2 + 1) → IsPair h' s.heap.objs.size x y → h'.objs.size = s.heap.objs.size + 1 →
      (∀ (c : Addr) (o : Obj), c ≠ z → c ≠ TO → c ≠ i1 → c ≠ i2 → s.heap.get? c = some o → h'.get? c = some o) → Q (.ref s.heap.objs.size) { heap := h', gens := s.gens, drawn := s.drawn, toks := s.toks, os := s.os }) :
    wpAny (model prog w) A (Builtin.«zip.__next__» { pos := [.ref z] }) (fun fin s' => ∃ v, fin = Fin.done (Flow.ret v) ∧ Q v s') E s := by
  unfold Builtin.«zip.__next__»
  refine wpAny_bind (wpAny_pure (a := (Value.ref z, [])) ?_)
  refine id (wpAny_bind (wpAny_field hz rfl rfl ?_))
  refine id (wpAny_bind (wpAny_field hz rfl rfl ?_))
  refine wpAny_bind (wpAny_seqItems hTI rfl ?_)
  refine id (wpAny_bind ?_)
  refine id (wpAny_bind (wpAny_field hz rfl rfl (wpAny_pure ?_)))
  simp only [if_true]
  have at1 : ∀ {h h' : Heap} {it l : Addr} {k : Nat} {q : Addr}, Heap.SameBut q h h' → it ≠ q → h.IsTupleIter it l k → h'.IsTupleIter it l k := fun sb ne h => Heap.IsTupleIter.at h fun o e => (sb.2 _ ne).trans e
  have at2 : ∀ {h h' : Heap} {it l : Addr} {k : Nat} {q : Addr}, Heap.SameBut q h h' → it ≠ q → h.IsListIter it l k → h'.IsListIter it l k := fun sb ne h => by
    obtain ⟨o, e, r⟩ := h
    exact ⟨o, (sb.2 _ ne).trans e, r⟩
  have at3 : ∀ {h h' : Heap} {l : Addr} {xs : Array Value} {q : Addr}, Heap.SameBut q h h' → l ≠ q → h.IsTuple l xs → h'.IsTuple l xs := fun sb ne h => by
    obtain ⟨o, e, r⟩ := h
    exact ⟨o, (sb.2 _ ne).trans e, r⟩
  have at4 : ∀ {h h' : Heap} {l : Addr} {xs : Array Value} {q : Addr}, Heap.SameBut q h h' → l ≠ q → h.IsList l xs → h'.IsList l xs := fun sb ne h => by
    obtain ⟨o, e, r⟩ := h
    exact ⟨o, (sb.2 _ ne).trans e, r⟩
  have at5 : ∀ {h h' : Heap} {c q : Addr} {o : Obj}, Heap.SameBut q h h' → c ≠ q → h.get? c = some o → h'.get? c = some o := fun sb ne h => (sb.2 _ ne).trans h
  refine wpAny_bind (wpAny_rule ?_)
  refine wpAny_bind (wpAny_field hz rfl rfl ?_)
  refine wpAny_bind (wpAny_setField_rec hz (by simp) fun g1 hz1 hs1 => ?_)
  refine wpAny_bind ?_
  simp only [List.zipIdx_cons, List.zipIdx_nil, List.forIn_cons, List.forIn_nil]
  refine wpAny_bind (wpAny_bind (wpAny_onRaise (id (wpAny_bind (RZ.nextOf_tuple_item (at1 hs1 D.i1z h1) (at3 hs1 D.l1z hl1) hx fun g2 h12 hs2 => ?_)))))
  refine wpAny_pure ?_
  have hTO2 : IsPair g2 TO a b := at5 hs2 D.TOi1 (at5 hs1 D.TOz hTO)
  refine wpAny_bind (wpAny_seqItems hTO2 rfl ?_)
  refine wpAny_bind (wpAny_updateSeq_pair hTO2 fun g3 hTO3 hs3 => ?_)
  refine wpAny_bind (wpAny_letGo (wpAny_pure ?_))
  have hTO3' : IsPair g3 TO x b := hTO3
  refine wpAny_bind (wpAny_bind (wpAny_onRaise (id (wpAny_bind (wpAny_nextOf_list_item (at2 hs3 D.TOi2.symm (at2 hs2 D.i12.symm (at2 hs1 D.i2z h2))) (at4 hs3 D.l2TO (at4 hs2 D.l2i1 (at4 hs1 D.l2z hl2))) hy fun g4 h24 hs4 => ?_)))))
  refine wpAny_pure ?_
  have hTO4 : IsPair g4 TO x b := at5 hs4 D.TOi2 hTO3'
  refine wpAny_bind (wpAny_seqItems hTO4 rfl ?_)
  refine wpAny_bind (wpAny_updateSeq_pair hTO4 fun g5 hTO5 hs5 => ?_)
  have hTO5' : IsPair g5 TO x y := hTO5
  refine wpAny_bind (wpAny_letGo (wpAny_pure (wpAny_pure ?_)))
  refine wpAny_bind (wpAny_seqItems hTO5' rfl ?_)
  refine wpAny_bind (wpAny_newTuple ?_ (by show 2 ≤ sizeLine; decide))
  have hz5 : IsZip g5 z TI TO .ellipsis := at5 hs5 D.TOz.symm (at5 hs4 D.i2z.symm (at5 hs3 D.TOz.symm (at5 hs2 D.i1z.symm hz1)))
  have sz : g5.objs.size = s.heap.objs.size := by rw [hs5.1, hs4.1, hs3.1, hs2.1, hs1.1]
  have zlt := Heap.lt_size hz5
  refine wpAny_bind ?_
  unfold Builtin.SmallTypes.ownedTupleHandOut
  refine wpAny_bind (wpAny_setField_rec (k := 0) (vs := #[.ellipsis, .bool false, .bool false, .ref TI, .ref TO]) (Heap.get?_push_of_some _ hz5) (show 0 < 5 by decide) fun g6 hz6 hs6 => ?_)
  refine wpAny_setField_rec hz6 (show 1 < 5 by decide) fun g7 hz7 hs7 => ?_
  have up : ∀ {c : Addr} {o : Obj}, c ≠ z → g5.get? c = some o → g7.get? c = some o := fun ne e => (hs7.2 _ ne).trans ((hs6.2 _ ne).trans (Heap.get?_push_of_some _ e))
  have sz7 : g7.objs.size = s.heap.objs.size + 1 := by
    rw [hs7.1, hs6.1]
    show (g5.push _).objs.size = _
    rw [Heap.size_push, sz]
  have zne : s.heap.objs.size ≠ z := by rw [← sz]; exact Nat.ne_of_gt zlt
  refine id (wpAny_pure ⟨_, rfl, ?_⟩)
  show Q (.ref g5.objs.size) _
  rw [sz]
  refine hQ g7 ?_ (up D.TOz hTO5') ?_ ?_ ?_ sz7 ?_
  · rw [← sz]; exact hz7
  · exact Heap.IsTupleIter.at (at1 hs5 D.TOi1.symm (at1 hs4 D.i12 (at1 hs3 D.TOi1.symm h12))) fun o e => up D.i1z e
  · obtain ⟨o, e, r⟩ := at2 hs5 D.TOi2.symm h24
    exact ⟨o, up D.i2z e, r⟩
  · refine (hs7.2 _ zne).trans ((hs6.2 _ zne).trans ?_)
    rw [← sz]
    exact Heap.get?_push_size g5 rfl
  · intro c o n1 n2 n3 n4 e
    exact up n1 (at5 hs5 n2 (at5 hs4 n4 (at5 hs3 n2 (at5 hs2 n3 (at5 hs1 n1 e)))))
theorem zipM_next_end {prog : Program} {w : World} {A : Around} {E : Value → Shared → Prop} {s : Shared} {z TI TO i1 i2 l1 l2 : Addr} {k1 k2 : Nat} {xs ys : Array Value} {a b : Value} {Q : PySem.Fin → Shared → Prop} (hh : A.handled = none) (D : ZipApart z TI TO i1 i2 l1 l2) (hz : IsZip s.heap z TI TO Value.none)
    (hTI : IsPair s.heap TI (.ref i1) (.ref i2)) (hTO : IsPair s.heap TO a b) (h1 : s.heap.IsTupleIter i1 l1 k1) (h2 : s.heap.IsListIter i2 l2 k2) (hl1 : s.heap.IsTuple l1 xs) (hl2 : s.heap.IsList l2 ys) (hend : xs[k1]? = none ∨ ys[k2]? = none)
    (hE : ∀ (h' : Heap) (e : Addr), (∀ (c : Addr) (o : Obj), c ≠ z → c ≠ TO → c ≠ i1 → c ≠ i2 → s.heap.get? c = some o → h'.get? c = some o) → (∃ o, h'.get? e = some o ∧ o.cls = Value.type "StopIteration") → E (.ref e) { heap := h', gens := s.gens, drawn := s.drawn, toks := s.toks, os := s.os }) :
    wpAny (model prog w) A (Builtin.«zip.__next__» { pos := [.ref z] }) Q E s := by
  unfold Builtin.«zip.__next__»
  refine wpAny_bind (wpAny_pure (a := (Value.ref z, [])) ?_)
  refine id (wpAny_bind (wpAny_field hz rfl rfl ?_))
  refine id (wpAny_bind (wpAny_field hz rfl rfl ?_))
  refine wpAny_bind (wpAny_seqItems hTI rfl ?_)
  refine id (wpAny_bind ?_)
  refine id (wpAny_bind (wpAny_field hz rfl rfl (wpAny_pure ?_)))
  simp only [if_true]
  have at1 : ∀ {h h' : Heap} {it l : Addr} {k : Nat} {q : Addr}, Heap.SameBut q h h' → it ≠ q → h.IsTupleIter it l k → h'.IsTupleIter it l k := fun sb ne h => Heap.IsTupleIter.at h fun o e => (sb.2 _ ne).trans e
  have at2 : ∀ {h h' : Heap} {it l : Addr} {k : Nat} {q : Addr}, Heap.SameBut q h h' → it ≠ q → h.IsListIter it l k → h'.IsListIter it l k := fun sb ne h => by
    obtain ⟨o, e, r⟩ := h
    exact ⟨o, (sb.2 _ ne).trans e, r⟩
  have at3 : ∀ {h h' : Heap} {l : Addr} {xs : Array Value} {q : Addr}, Heap.SameBut q h h' → l ≠ q → h.IsTuple l xs → h'.IsTuple l xs := fun sb ne h => by
    obtain ⟨o, e, r⟩ := h
    exact ⟨o, (sb.2 _ ne).trans e, r⟩
  have at4 : ∀ {h h' : Heap} {l : Addr} {xs : Array Value} {q : Addr}, Heap.SameBut q h h' → l ≠ q → h.IsList l xs → h'.IsList l xs := fun sb ne h => by
    obtain ⟨o, e, r⟩ := h
    exact ⟨o, (sb.2 _ ne).trans e, r⟩
  have at5 : ∀ {h h' : Heap} {c q : Addr} {o : Obj}, Heap.SameBut q h h' → c ≠ q → h.get? c = some o → h'.get? c = some o := fun sb ne h => (sb.2 _ ne).trans h
  refine wpAny_bind (wpAny_rule ?_)
  refine wpAny_bind (wpAny_field hz rfl rfl ?_)
  refine wpAny_bind (wpAny_setField_rec hz (by simp) fun g1 hz1 hs1 => ?_)
  refine wpAny_bind ?_
  simp only [List.zipIdx_cons, List.zipIdx_nil, List.forIn_cons, List.forIn_nil]
  have fin : ∀ {g h : Heap} {e : Addr} {vs : Array Value} {it : Addr}, it ≠ z → g.get? z = some { cls := .type "zip", data := .fields vs } → 0 < vs.size → Heap.ExtBut it g h → (∃ o, h.get? e = some o ∧ o.cls = Value.type "StopIteration") → (∀ (c : Addr) (o : Obj), c ≠ z → c ≠ TO → c ≠ i1 → c ≠ i2 → s.heap.get? c = some o → g.get? c = some o) → (it = i1 ∨ it = i2) →
      wpAny (model prog w) A (setField (.ref z) 0 .none) (fun _ s'' => E (.ref e) s'') E { heap := h, gens := s.gens, drawn := s.drawn, toks := s.toks, os := s.os } := by
    intro g h e vs it ne hg hv hx he hk hi
    have hzh : h.get? z = some { cls := .type "zip", data := .fields vs } := hx z _ ne.symm hg
    refine wpAny_setField_rec hzh hv fun h' hz' hs' => hE h' e ?_ ?_
    · intro c o n1 n2 n3 n4 q
      have nc : c ≠ it := hi.elim (fun w => w ▸ n3) fun w => w ▸ n4
      exact at5 hs' n1 (hx c o nc (hk c o n1 n2 n3 n4 q))
    · obtain ⟨o, e1, e2⟩ := he
      have nz : e ≠ z := fun q => by
        subst q
        rw [hzh] at e1
        cases e1
        exact absurd e2 (by simp)
      exact ⟨o, at5 hs' nz e1, e2⟩
  cases hx : xs[k1]? with
  | none =>
    refine wpAny_bind (wpAny_bind (wpAny_onRaise (id (wpAny_bind (RZ.nextOf_tuple_end hh (at1 hs1 D.i1z h1) (at3 hs1 D.l1z hl1) hx fun g2 e hs2 hst => ?_)))))
    exact fin D.i1z hz1 (show 0 < 5 by decide) hs2 hst (fun c o n1 n2 n3 n4 q => at5 hs1 n1 q) (.inl rfl)
  | some x =>
    have hy : ys[k2]? = none := hend.resolve_left (by rw [hx]; exact fun q => nomatch q)
    refine wpAny_bind (wpAny_bind (wpAny_onRaise (id (wpAny_bind (RZ.nextOf_tuple_item (at1 hs1 D.i1z h1) (at3 hs1 D.l1z hl1) hx fun g2 h12 hs2 => ?_)))))
    refine wpAny_pure ?_
    have hTO2 : IsPair g2 TO a b := at5 hs2 D.TOi1 (at5 hs1 D.TOz hTO)
    refine wpAny_bind (wpAny_seqItems hTO2 rfl ?_)
    refine wpAny_bind (wpAny_updateSeq_pair hTO2 fun g3 hTO3 hs3 => ?_)
    refine wpAny_bind (wpAny_letGo (wpAny_pure ?_))
    have hTO3' : IsPair g3 TO x b := hTO3
    refine wpAny_bind (wpAny_bind (wpAny_onRaise (id (wpAny_bind (wpAny_nextOf_list_end hh (at2 hs3 D.TOi2.symm (at2 hs2 D.i12.symm (at2 hs1 D.i2z h2))) (at4 hs3 D.l2TO (at4 hs2 D.l2i1 (at4 hs1 D.l2z hl2))) hy fun g4 e hs4 hst => ?_)))))
    exact fin D.i2z (at5 hs3 D.TOz.symm (at5 hs2 D.i1z.symm hz1)) (show 0 < 5 by decide) hs4 hst (fun c o n1 n2 n3 n4 q => at5 hs3 n2 (at5 hs2 n3 (at5 hs1 n1 q))) (.inr rfl)
@[reducible] def zipMH1 (h : Heap) (l1 : Addr) : Heap := h.push { cls := .type "tuple_iterator", data := .fields #[.ref l1, .int 0 0] }
@[reducible] def zipMH2 (h : Heap) (l1 l2 : Addr) : Heap := (zipMH1 h l1).push { cls := .type "list_iterator", data := .fields #[.ref l2, .int 0 0] }
@[reducible] def zipMH3 (h : Heap) (l1 l2 : Addr) : Heap := (zipMH2 h l1 l2).push { cls := .type "tuple", data := .seq #[.ref h.objs.size, .ref (zipMH1 h l1).objs.size] }
@[reducible] def zipMH4 (h : Heap) (l1 l2 : Addr) : Heap := (zipMH3 h l1 l2).push { cls := .type "tuple", data := .seq #[.none, .none] }
@[reducible] def zipMH5 (h : Heap) (l1 l2 : Addr) : Heap := (zipMH4 h l1 l2).push { cls := .type "zip", data := .fields #[.none, .bool false, .bool false, .ref (zipMH2 h l1 l2).objs.size, .ref (zipMH3 h l1 l2).objs.size] }
theorem meets_zipM_new (l1 l2 : Addr) (xs ys : Array Value) : Meets (Builtin.«zip.__new__» { pos := [.type "zip", .ref l1, .ref l2] }) fun _ R s => s.heap.IsTuple l1 xs ∧ s.heap.IsList l2 ys ∧
    R (Except.ok (Flow.ret (.ref (zipMH4 s.heap l1 l2).objs.size))) { heap := zipMH5 s.heap l1 l2, gens := s.gens, drawn := s.drawn, toks := s.toks, os := s.os } :=
  Meets.of_wp fun prog w A R s h => by
    obtain ⟨hp, g, d, tk, os⟩ := s
    obtain ⟨hl1, hl2, h⟩ := h
    have hL2 := Heap.IsList.push hl2 { cls := .type "tuple_iterator", data := .fields #[.ref l1, .int 0 0] }
    refine id (wpAny_bind (id (wpAny_bind (id (wpAny_pure (wpAny_ite_false rfl ?_))))))
    refine wpAny_bind (wpAny_of_eq sub_zip (wpAny_ite_false rfl (wpAny_pure ?_)))
    refine wpAny_ite_false rfl ?_
    refine wpAny_bind (id (wpAny_bind ?_))
    refine id (wpAny_bind (wpAny_bind (wpAny_holding (wpAny_pyIter_tuple hl1 (wpAny_pure ?_)))))
    refine id (wpAny_bind (wpAny_bind (wpAny_holding (wpAny_pyIter_list hL2 (wpAny_pure ?_)))))
    refine id (wpAny_pure (wpAny_pure ?_))
    refine wpAny_bind (wpAny_newTuple ?_ (by show 2 ≤ sizeLine; decide))
    refine wpAny_bind (wpAny_newTuple ?_ (by show 2 ≤ sizeLine; decide))
    refine wpAny_bind ?_
    unfold Builtin.SmallTypes.newRecord
    refine id (wpAny_newObj_type (wpAny_pure ⟨_, rfl, h⟩) ?_)
    show 5 ≤ sizeLine + 2
    decide
theorem call_zipM {prog : Program} {w : World} {A : Around} {E : Value → Shared → Prop} {s : Shared} {l1 l2 : Addr} {xs ys : Array Value} {Q : Value → Shared → Prop} (hl1 : s.heap.IsTuple l1 xs) (hl2 : s.heap.IsList l2 ys)
    (h : ∀ h' : Heap, IsZip h' (s.heap.objs.size + 4) (s.heap.objs.size + 2) (s.heap.objs.size + 3) .none → IsPair h' (s.heap.objs.size + 2) (.ref s.heap.objs.size) (.ref (s.heap.objs.size + 1)) → IsPair h' (s.heap.objs.size + 3) .none .none → h'.IsTupleIter s.heap.objs.size l1 0 → h'.IsListIter (s.heap.objs.size + 1) l2 0 →
      (∀ (c : Addr) (o : Obj), s.heap.get? c = some o → h'.get? c = some o) → Q (.ref (s.heap.objs.size + 4)) { heap := h', gens := s.gens, drawn := s.drawn, toks := s.toks, os := s.os }) :
    wpAny (model prog w) A (call (.type "zip") [.ref l1, .ref l2]) Q E s := by
  refine callType_new F.called_zip (by decide) (F.typeCall_zip_2 _ _) (F.newCall_zip_2 _ _) (fun obj => F.args_object_init_3 obj _ _) F.entry_zip_new (meets_zipM_new l1 l2 xs ys) ⟨hl1, hl2, ?_⟩
  have z1 : (zipMH1 s.heap l1).objs.size = s.heap.objs.size + 1 := Heap.size_push _ _
  have z2 : (zipMH2 s.heap l1 l2).objs.size = s.heap.objs.size + 2 := by rw [Heap.size_push, z1]
  have z3 : (zipMH3 s.heap l1 l2).objs.size = s.heap.objs.size + 3 := by rw [Heap.size_push, z2]
  have z4 : (zipMH4 s.heap l1 l2).objs.size = s.heap.objs.size + 4 := by rw [Heap.size_push, z3]
  have g5 := Heap.get?_push_size (zipMH4 s.heap l1 l2) (o := { cls := .type "zip", data := .fields #[.none, .bool false, .bool false, .ref (zipMH2 s.heap l1 l2).objs.size, .ref (zipMH3 s.heap l1 l2).objs.size] }) rfl
  have up : ∀ {c : Addr} {o : Obj}, (zipMH4 s.heap l1 l2).get? c = some o → (zipMH5 s.heap l1 l2).get? c = some o := fun e => Heap.get?_push_of_some _ e
  have g4 := up (Heap.get?_push_size (zipMH3 s.heap l1 l2) (o := { cls := .type "tuple", data := .seq #[.none, .none] }) rfl)
  have g3 := up (Heap.get?_push_of_some _ (Heap.get?_push_size (zipMH2 s.heap l1 l2) (o := { cls := .type "tuple", data := .seq #[.ref s.heap.objs.size, .ref (zipMH1 s.heap l1).objs.size] }) rfl))
  have g2 := up (Heap.get?_push_of_some _ (Heap.get?_push_of_some _ (Heap.get?_push_size (zipMH1 s.heap l1) (o := { cls := .type "list_iterator", data := .fields #[.ref l2, .int 0 0] }) rfl)))
  have g1 := up (Heap.get?_push_of_some _ (Heap.get?_push_of_some _ (Heap.get?_push_of_some _ (Heap.get?_push_size s.heap (o := { cls := .type "tuple_iterator", data := .fields #[.ref l1, .int 0 0] }) rfl))))
  have hz : IsZip (zipMH5 s.heap l1 l2) (s.heap.objs.size + 4) (s.heap.objs.size + 2) (s.heap.objs.size + 3) .none := by
    have g5' : (zipMH5 s.heap l1 l2).get? (zipMH4 s.heap l1 l2).objs.size = some { cls := .type "zip", data := .fields #[.none, .bool false, .bool false, .ref (zipMH2 s.heap l1 l2).objs.size, .ref (zipMH3 s.heap l1 l2).objs.size] } := g5
    show (zipMH5 s.heap l1 l2).get? (s.heap.objs.size + 4) = some { cls := .type "zip", data := .fields #[.none, .bool false, .bool false, .ref (s.heap.objs.size + 2), .ref (s.heap.objs.size + 3)] }
    rw [← z4, ← z2, ← z3]
    exact g5'
  show _ ∧ _
  rw [z4]
  refine ⟨⟨_, hz, rfl⟩, h _ hz ?_ ?_ ⟨_, g1, rfl, rfl⟩ ?_ fun c o e => up (Heap.get?_push_of_some _ (Heap.get?_push_of_some _ (Heap.get?_push_of_some _ (Heap.get?_push_of_some _ e))))⟩
  · rw [z2, z1] at g3; exact g3
  · rw [z3] at g4; exact g4
  · rw [z1] at g2; exact ⟨_, g2, rfl, rfl⟩
def ItzM (K : PySem.W.Frag) (a b : Addr) : It where
  go := fun i H => ∃ xs ys x y, SqT K H a xs ∧ SqL K H b ys ∧ xs[i]? = some x ∧ ys[i]? = some y
  yld := fun i H v H' => ∃ T x y, v = .ref T ∧ H T = none ∧ H' = upd H T (.tup [x, y]) ∧ (∀ xs, SqT K H a xs → xs[i]? = some x) ∧ ∀ ys, SqL K H b ys → ys[i]? = some y
  stop := fun i H => ∃ xs ys, SqT K H a xs ∧ SqL K H b ys ∧ (xs.length ≤ i ∨ ys.length ≤ i)
theorem pyNext_zipM_item {prog : Program} {w : World} {A : Around} {E : Value → Shared → Prop} {s : Shared} {z TI TO i1 i2 l1 l2 : Addr} {k1 k2 : Nat} {xs ys : Array Value} {x y a b : Value} {Q : Option Value → Shared → Prop} (D : ZipApart z TI TO i1 i2 l1 l2) (hz : IsZip s.heap z TI TO Value.none)
    (hTI : IsPair s.heap TI (.ref i1) (.ref i2)) (hTO : IsPair s.heap TO a b) (h1 : s.heap.IsTupleIter i1 l1 k1) (h2 : s.heap.IsListIter i2 l2 k2) (hl1 : s.heap.IsTuple l1 xs) (hl2 : s.heap.IsList l2 ys) (hx : xs[k1]? = some x) (hy : ys[k2]? = some y)
    (hQ : ∀ h' : Heap, IsZip h' z TI TO (rawInt s.heap.objs.size) → IsPair h' TO x y → h'.IsTupleIter i1 l1 (k1 + 1) → h'.IsListIter i2 l2 (k2 + 1) → IsPair h' s.heap.objs.size x y → h'.objs.size = s.heap.objs.size + 1 →
      (∀ (c : Addr) (o : Obj), c ≠ z → c ≠ TO → c ≠ i1 → c ≠ i2 → s.heap.get? c = some o → h'.get? c = some o) → Q (some (.ref s.heap.objs.size)) { heap := h', gens := s.gens, drawn := s.drawn, toks := s.toks, os := s.os }) :
    wpAny (model prog w) A (pyNext (.ref z)) Q E s :=
  have hT : s.TypeIs (.ref z) "zip" := ⟨_, hz, rfl⟩
  id (wpAny_bind (wpAny_attempt (wpAny_callSpecial?_slot hT F.slot_zip_next (wpAny_call_entry F.slot_zip_next hT F.entry_zip_next
    (zipM_next_item D hz hTI hTO h1 h2 hl1 hl2 hx hy fun h' a1 a2 a3 a4 a5 a6 a7 => wpAny_pure (hQ h' a1 a2 a3 a4 a5 a6 a7)) (F.args_zip_next_1 (.ref z))))))
theorem pyNext_zipM_end {prog : Program} {w : World} {A : Around} {E : Value → Shared → Prop} {s : Shared} {z TI TO i1 i2 l1 l2 : Addr} {k1 k2 : Nat} {xs ys : Array Value} {a b : Value} {Q : Option Value → Shared → Prop} (hh : A.handled = none) (D : ZipApart z TI TO i1 i2 l1 l2) (hz : IsZip s.heap z TI TO Value.none)
    (hTI : IsPair s.heap TI (.ref i1) (.ref i2)) (hTO : IsPair s.heap TO a b) (h1 : s.heap.IsTupleIter i1 l1 k1) (h2 : s.heap.IsListIter i2 l2 k2) (hl1 : s.heap.IsTuple l1 xs) (hl2 : s.heap.IsList l2 ys) (hend : xs[k1]? = none ∨ ys[k2]? = none)
    (hQ : ∀ h' : Heap, (∀ (c : Addr) (o : Obj), c ≠ z → c ≠ TO → c ≠ i1 → c ≠ i2 → s.heap.get? c = some o → h'.get? c = some o) → Q none { heap := h', gens := s.gens, drawn := s.drawn, toks := s.toks, os := s.os }) :
    wpAny (model prog w) A (pyNext (.ref z)) Q E s :=
  have hT : s.TypeIs (.ref z) "zip" := ⟨_, hz, rfl⟩
  id (wpAny_bind (wpAny_attempt (wpAny_callSpecial?_slot hT F.slot_zip_next (wpAny_call_entry F.slot_zip_next hT F.entry_zip_next
    (zipM_next_end hh D hz hTI hTO h1 h2 hl1 hl2 hend fun h' e hk ⟨o, ho, hc⟩ => wpAny_bind (wpAny_isInstance ⟨o, ho, hc⟩ isSubtype_stop (wpAny_pure (hQ h' hk)))) (F.args_zip_next_1 (.ref z))))))
end DL

namespace DL
open PySem PySem.Spec PyProof.Rows L2
theorem turn_zipM {P : Program} {w : World} {K : PySem.W.Frag} {elts : List Expr} {kk : Nat} {tpos : Pos} {a b z TI TO i1 i2 : Addr} (D : ZipApart z TI TO i1 i2 a b) :
    Turn P w K (.Tuple elts kk tpos) (ItzM K a b) [z, TI, TO, i1, i2] z fun i h => IsZip h z TI TO .none ∧ IsPair h TI (.ref i1) (.ref i2) ∧ (∃ x y, IsPair h TO x y) ∧ h.IsTupleIter i1 a i ∧ h.IsListIter i2 b i where
  mem := List.mem_cons_self
  obj := fun i h st c hc => by
    obtain ⟨hz, hTI, ⟨x, y, hTO⟩, ⟨o1, e1, _, d1⟩, ⟨o2, e2, _, d2⟩⟩ := st
    simp only [List.mem_cons, List.not_mem_nil, or_false] at hc
    rcases hc with rfl | rfl | rfl | rfl | rfl
    · exact ⟨_, hz, fun v q => nomatch q⟩
    · exact ⟨_, hTI, fun v q => nomatch q⟩
    · exact ⟨_, hTO, fun v q => nomatch q⟩
    · exact ⟨_, e1, fun v q => by rw [d1] at q; cases q⟩
    · exact ⟨_, e2, fun v q => by rw [d2] at q; cases q⟩
  keep := fun i h h' st k => by
    obtain ⟨hz, hTI, ⟨x, y, hTO⟩, ⟨o1, e1, r1⟩, ⟨o2, e2, r2⟩⟩ := st
    exact ⟨k z (by simp) _ hz, k TI (by simp) _ hTI, ⟨x, y, k TO (by simp) _ hTO⟩, ⟨o1, k i1 (by simp) _ e1, r1⟩, ⟨o2, k i2 (by simp) _ e2, r2⟩⟩
  item := fun X hP hw hK hc i pins s σ H E I hf st hg => by
    subst hP hw hK
    obtain ⟨hz, hTI, ⟨x0, y0, hTO⟩, h1, h2⟩ := st
    obtain ⟨xs, ys, x, y, hqx, hqy, hx, hy⟩ := hg
    obtain ⟨its, rv, p, _⟩ := I.tuple hqx
    obtain ⟨its2, rv2, p2, _⟩ := I.list hqy
    obtain ⟨u, hu, ru⟩ := rv.get hx
    obtain ⟨u2, hu2, ru2⟩ := rv2.get hy
    have hzl := Heap.lt_size hz
    refine pyNext_zipM_item D hz hTI hTO h1 h2 p p2.isList (by simpa using hu) (by simpa using hu2) fun h' z' TO' h1' h2' hT hsz hk => ?_
    refine ⟨.ref s.heap.objs.size, rfl, wpAny_letOwnedTupleGo_zip z' fun h'' z'' sb => ?_⟩
    have hT2 := (sb.2 s.heap.objs.size (Nat.ne_of_gt hzl)).trans hT
    have new : ObjOk X.prog X.w (upd H s.heap.objs.size (HO.tup [x, y])) h'' s.heap.objs.size (HO.tup [x, y]) := ⟨by show 2 ≤ sizeLine; decide, [u, u2], .cons ru (.cons ru2 .nil), _, hT2, rfl, 0, rfl⟩
    have I1 := Inv.turnedNew (t' := s.toks) (ch := [z, TI, TO, i1, i2]) I (fun c o hb q => (sb.2 c fun q' => hb (by rw [q']; simp)).trans (hk c o (fun q' => hb (by rw [q']; simp)) (fun q' => hb (by rw [q']; simp)) (fun q' => hb (by rw [q']; simp)) (fun q' => hb (by rw [q']; simp)) q)) hf (Nat.le_refl _) new
    refine ⟨.ref s.heap.objs.size, upd H s.heap.objs.size (HO.tup [x, y]), I1, rfl, ⟨s.heap.objs.size, x, y, rfl, HOk.fresh I.hok (Nat.le_refl _), rfl, fun l hl => by rw [Inv.tuple_inj I hl hqx]; exact hx, fun l hl => by rw [Inv.list_inj I hl hqy]; exact hy⟩, ⟨z'', (sb.2 TI D.TIz).trans (hk TI _ D.TIz D.TITO D.TIi1 D.TIi2 hTI), ⟨u, u2, (sb.2 TO D.TOz).trans TO'⟩, ?_, ?_⟩, fun c hcm => ?_⟩
    · obtain ⟨o, e, r⟩ := h1'; exact ⟨o, (sb.2 i1 D.i1z).trans e, r⟩
    · obtain ⟨o, e, r⟩ := h2'; exact ⟨o, (sb.2 i2 D.i2z).trans e, r⟩
    · have hlt : c < s.heap.objs.size := by
        obtain ⟨o1, e1, _⟩ := h1
        obtain ⟨o2, e2, _⟩ := h2
        simp only [List.mem_cons, List.not_mem_nil, or_false] at hcm
        rcases hcm with rfl | rfl | rfl | rfl | rfl
        · exact hzl
        · exact Heap.lt_size hTI
        · exact Heap.lt_size hTO
        · exact Heap.lt_size e1
        · exact Heap.lt_size e2
      rw [upd_ne (Nat.ne_of_lt hlt)]
      exact (hf c hcm).1
  done := fun X hP hw hK hc i pins s σ H E I hf st hg => by
    subst hP hw hK
    obtain ⟨hz, hTI, ⟨x0, y0, hTO⟩, h1, h2⟩ := st
    obtain ⟨xs, ys, hqx, hqy, hend⟩ := hg
    obtain ⟨its, rv, p, _⟩ := I.tuple hqx
    obtain ⟨its2, rv2, p2, _⟩ := I.list hqy
    have l1 := rv.length
    have l2 := rv2.length
    have he : its.toArray[i]? = none ∨ its2.toArray[i]? = none := hend.elim (fun q => .inl (by rw [List.getElem?_toArray]; exact List.getElem?_eq_none (by omega))) fun q => .inr (by rw [List.getElem?_toArray]; exact List.getElem?_eq_none (by omega))
    refine pyNext_zipM_end (I.ok.hd hc) D hz hTI hTO h1 h2 p p2.isList he fun h' hk => ⟨rfl, Inv.turnedL (ch := [z, TI, TO, i1, i2]) I (fun c o hb q => hk c o (fun q' => hb (by rw [q']; simp)) (fun q' => hb (by rw [q']; simp)) (fun q' => hb (by rw [q']; simp)) (fun q' => hb (by rw [q']; simp)) q) hf⟩
  self := fun A i s Q E st h => wpAny_pyIter_zip st.1 h
def iZipM (K : PySem.W.Frag) (ta : TA) : TI := fun σ H R => ta σ H fun vs H1 => ∃ a b xs ys, vs = [.ref a, .ref b] ∧ SqT K H1 a xs ∧ SqL K H1 b ys ∧ R (ItzM K a b) H1
theorem pi_zipM {X : Cx} {e e2 : Expr} {ta : TA} {p pos tpos : Pos} {elts : List Expr} {kk : Nat} (hg : Gl X "zip") (hm : X.mg "zip" = none) (ha : PA X [e, e2] ta)
    (hs : starEach [e, e2] X.env = (false, eval e X.env) :: starEach [e2] X.env := by rfl) (hpl : (backTo pos (starEach [e2] X.env)).any (·.1) = false := by rfl) :
    PI X (.Tuple elts kk tpos) (.Call (.Name "zip" p) [e, e2] [] pos) (iZipM X.K ta) where
  run := fun pins s σ H R I h => by
    refine Call_ (ld_blt I hg hm boot_zip (PyProof.Rows.callWith_type1 (thn (ha.run pos pins s σ H _ I h) ?_) hs hpl) (by decide) (by decide)) rfl
    rintro us s1 ⟨vs, H1, I1, r1, a, b, xs, ys, rfl, hqx, hqy, q⟩
    cases r1 with
    | cons r rr =>
    cases rr with
    | cons r' rr =>
    cases rr
    cases r
    cases r'
    obtain ⟨its, rv, p1, _⟩ := I1.tuple hqx
    obtain ⟨its2, rv2, p2, _⟩ := I1.list hqy
    have la : a < s1.heap.objs.size := by obtain ⟨o, e, _⟩ := p1; exact Heap.lt_size e
    refine call_zipM p1 p2.isList fun h' hz hTI hTO h1 h2 hk => wpAny_pyIter_zip hz ?_
    have I2 := I1.kept (t' := s1.toks) hk
    refine ⟨s1.heap.objs.size + 4, [s1.heap.objs.size + 4, s1.heap.objs.size + 2, s1.heap.objs.size + 3, s1.heap.objs.size, s1.heap.objs.size + 1], fun i h => IsZip h (s1.heap.objs.size + 4) (s1.heap.objs.size + 2) (s1.heap.objs.size + 3) .none ∧ IsPair h (s1.heap.objs.size + 2) (.ref s1.heap.objs.size) (.ref (s1.heap.objs.size + 1)) ∧ (∃ x y, IsPair h (s1.heap.objs.size + 3) x y) ∧ h.IsTupleIter s1.heap.objs.size a i ∧ h.IsListIter (s1.heap.objs.size + 1) b i, ItzM X.K a b, H1, rfl, I2, turn_zipM (PySem.W.ktu_apart _ a b la (PlainL.lt p2)), ⟨hz, hTI, ⟨.none, .none, hTO⟩, h1, h2⟩, fun c hcm => ?_, q⟩
    have hle : s1.heap.objs.size ≤ c := by
      simp only [List.mem_cons, List.not_mem_nil, or_false] at hcm
      rcases hcm with rfl | rfl | rfl | rfl | rfl <;> omega
    exact Inv.fpOk I1 hle (HOk.fresh I1.hok hle)
end DL

namespace DL
open PySem PySem.Spec PyProof.Rows L2
section
variable {X : Cx} {K : PySem.W.Frag} {io : List Nat} {fr : Af} {e e2 : Expr} {elts : List Expr} {kk : Nat} {tpos pos : Pos}
theorem walk_zipM {a b : Addr} {xs ys : List V} {n : Nat} (hn : n = min xs.length ys.length) : Walk (ItzM K a b) n (fun H => SqT K H a xs ∧ SqL K H b ys) (YPair (fun i => xs[i]?) (fun i => ys[i]?)) := by
  subst hn
  refine ⟨fun i _ hi q => ?_, fun _ q => ⟨xs, ys, q.1, q.2, by omega⟩, fun i H v H' _ q y => ?_⟩
  · have h1 : i < xs.length := by omega
    have h2 : i < ys.length := by omega
    exact ⟨xs, ys, xs[i], ys[i], q.1, q.2, by simp [h1], by simp [h2]⟩
  · obtain ⟨T, x, y', h1, h2, h3, h4, h5⟩ := y
    exact ⟨T, x, y', h1, h2, h3, h4 xs q.1, h5 ys q.2⟩
def itZM : List PyData → Option (List PyData)
  | [.tuple xs, .list ys] => some (List.zipWith (fun x y => .tuple [x, y]) xs ys)
  | _ => none
theorem di_zipM {p : Pos} (hg : Gl X "zip") (hm : X.mg "zip" = none) (ha : PA X [e, e2] (aD X.K io fr))
    (hs : starEach [e, e2] X.env = (false, eval e X.env) :: starEach [e2] X.env := by rfl) (hpl : (backTo pos (starEach [e2] X.env)).any (·.1) = false := by rfl) :
    PI X (.Tuple elts kk tpos) (.Call (.Name "zip" p) [e, e2] [] pos) (iD X.K io (fZ itZM fr)) := (pi_zipM hg hm ha hs hpl).imp fun σ H R w => by
  obtain ⟨Γ, ad, E, zs, E', ok, he, q⟩ := w
  obtain ⟨⟨gs, E1⟩, h1, h2⟩ := Option.bind_eq_some_iff.mp he
  obtain ⟨ds, h3, h4⟩ := Option.bind_eq_some_iff.mp h2
  obtain ⟨z, h5, h6⟩ := Option.map_eq_some_iff.mp h4
  cases h6
  refine ⟨Γ, ad, E, gs, E1, ok, h1, fun vs H1 fr1 ok1 sim1 r1 => ?_⟩
  have r := RepG.repL (onlyV_map h3) r1
  unfold itZM at h5
  split at h5
  · cases h5
    obtain ⟨v, u, e1, ra, rb⟩ := repL_two r
    obtain ⟨a, xs, e3, t, hz, r3⟩ := ra.tup
    obtain ⟨b, ys, e4, t2, hz2, r4⟩ := rb.lst
    subst e1 e3 e4
    refine ⟨a, b, xs, ys, rfl, t.sq, t2.sq, q _ _ _ _ H1 fr1 ok1 sim1 (walk_zipM (xs := xs) (ys := ys) rfl) (by rw [List.length_zipWith, r3.length, r4.length]) ?_⟩
    rw [sim1.Ao]
    exact its_zip hz r3 r4 fun H2 A2 g => ⟨(g.tup t).sq, (g.lst t2).sq⟩
  · cases h5
end
end DL

namespace DL
open PySem PySem.Spec PyProof.Rows L2
/-! ### t[k].count(z): a table of tuples of texts -/
section
variable {X : Cx} {K : PySem.W.Frag} {io : List Nat} {fb : Ef}
def rCntT (K : PySem.W.Frag) : V → List V → Hp → VK → Prop := fun x vs H Q => ∃ (p : Addr) (ys : List Str) (z : Str), x = .ref p ∧ vs = [.str z] ∧ SqT K H p (ys.map V.str) ∧ Q (.int (ys.count z : Nat)) H
def eqS (z : Str) : Value → Bool
  | .str w _ => w == z
  | _ => false
theorem cnt_vals {z : Str} : ∀ {ys : List Str} {its : List Value}, Vals (ys.map V.str) its → its.countP (eqS z) = ys.count z
  | [], its, h => by cases h; rfl
  | y :: ys, its, h => by
    cases h with
    | cons r rr =>
      obtain ⟨t, rfl⟩ := r
      rw [List.countP_cons, List.count_cons, cnt_vals rr]
      rfl
theorem str_vals : ∀ {ys : List Str} {its : List Value}, Vals (ys.map V.str) its → ∀ v ∈ its, ∃ w t, v = .str w t
  | [], its, h, v, hv => by cases h; cases hv
  | y :: ys, its, h, v, hv => by
    cases h with
    | cons r rr =>
      rcases List.mem_cons.mp hv with rfl | hv
      · obtain ⟨t, rfl⟩ := r; exact ⟨_, _, rfl⟩
      · exact str_vals rr v hv
theorem mt_tcount : MtR X "tuple.count" (rCntT X.K) := by
  intro pins s σ H x vs v us Q I rx rv h
  obtain ⟨p, ys, z, rfl, rfl, ht, q⟩ := h
  cases rx
  obtain ⟨u, rfl, ru⟩ := Vals.one rv
  obtain ⟨t, rfl⟩ := ru
  obtain ⟨its, r, ⟨⟨cls, dd, data, sl⟩, ho, hc, n, hd⟩, _⟩ := I.tuple ht
  cases hc; cases hd
  refine call_meets F.slot_tuple_count ⟨_, ho, rfl⟩ F.entry_tuple_count (F.args_tuple_count_2 _ _) (SeqAt.tuple_countAt p its.toArray n dd sl (.str z t) (eqS z)) ⟨ho, fun y hy => ?_, ?_⟩
  · obtain ⟨w, t', rfl⟩ := str_vals r y (by simpa using hy)
    exact SeqAt.EqAt.str_str _ _ _ _
  · rw [show its.toArray.toList.countP (eqS z) = ys.count z from cnt_vals r]
    exact ⟨.int _, H, I.tok _, ⟨_, rfl⟩, q⟩
end
end DL

namespace DL
open PySem PySem.Spec PyProof.Rows L2
section
variable {X : Cx} {K : PySem.W.Frag} {io : List Nat} {fb : Ef}
def cntB (K : PySem.W.Frag) (x : Str) (t : List (Str × PyData)) : Bool := t.all fun p => match PySem.W.nsIn K (He.ga K x) p.1 with
  | some (some (.ref a)) => (match K.lookup a with
    | some ⟨.type "tuple", none, _, _⟩ => true
    | _ => false)
  | _ => false
structure GCnt (K : PySem.W.Frag) (d : Addr) (t : List (Str × PyData)) : Prop where
  plain : ∀ z v, tblLook t z = some v → ∃ a o, PySem.W.nsIn K d z = some (some (.ref a)) ∧ K.lookup a = some o ∧ o.cls = .type "tuple" ∧ o.dict = none
theorem cntB_ok {x : Str} {t : List (Str × PyData)} (h : cntB K x t = true) : GCnt K (He.ga K x) t := ⟨fun z v e => by
  unfold tblLook at e
  split at e
  · rename_i p hp
    have hm := List.mem_of_find?_eq_some hp
    have hz : p.1 = z := by have := List.find?_some hp; exact of_decide_eq_true this
    have h3 := List.all_eq_true.mp h p hm
    split at h3
    · rename_i a e1
      split at h3
      · rename_i data sl e2
        exact ⟨a, _, by rw [← hz]; exact e1, e2, rfl, rfl⟩
      · cases h3
    · cases h3
  · cases e⟩
def oCntT (t : List (Str × PyData)) (z : Str) : PyData → Option PyData
  | .str w => match tblLook t w with
    | some (.tuple xs) => (allS xs).map fun ys => .int (ys.count z : Nat)
    | _ => none
  | _ => none
theorem de_cntT {x : Str} {d : Addr} {t : List (Str × PyData)} {z : Str} {b : Expr} {p p2 p3 apos cpos : Pos} {j : Nat} (D : GDict X.K X.w d t) (C : GCnt X.K d t) (hb : PE X b (tD X.K io fb)) (hg : Gl X x) (hm : X.mg x = some (.ref d)) (hs : PlainIx b)
    (hbase : attributeBase (.Subscript (.Name x p) b p2) "count" X.env (eval (.Subscript (.Name x p) b p2) X.env) = eval (.Subscript (.Name x p) b p2) X.env := by rfl)
    (hfew : ((backTo cpos (starEach [.Constant (.str z) j p3] X.env)).all (fun x => !x.1) && (backToKw cpos (keywordEach [] X.env)).all (fun x => x.1.isSome)
      && decide (([.Constant (.str z) j p3] : List Expr).length + ([] : List Keyword).length + (if ([] : List Keyword).isEmpty then 0 else 1) < 30)) = true := by rfl)
    (hline : (apos.endLine == cpos.line) = true := by rfl) (hse : starEach [.Constant (.str z) j p3] X.env = (false, eval (.Constant (.str z) j p3) X.env) :: starEach [] X.env := by rfl) (hplain : (backTo cpos (starEach [] X.env)).any (·.1) = false := by rfl) (hd : (x == ("__debug__" : Str)) = false := by decide) :
    PE X (.Call (.Attribute (.Subscript (.Name x p) b p2) "count" apos) [.Constant (.str z) j p3] [] cpos) (tD X.K io (f1 (oCntT t z) fb)) := by
  obtain ⟨es, n, kd⟩ := D.kd
  refine (pe_bm F.plainAttrs_tuple F.slot_tuple_count F.type_tuple_count mt_tcount (pe_ix (ix_kd kd) (pe_glob (v := .ref d) hg hm rfl hd) hb hs) (pa_cons pe_str pa_nil) hbase hfew hline hse hplain).imp fun σ H Q w => ?_
  refine td1 (r := fun y H1 Q => ∃ (w : Str) (u0 : Value) (v0 : V), V.ref d = .ref d ∧ y = .str w ∧ PySem.W.nsIn X.K d w = some (some u0) ∧ RelV v0 u0 ∧ tyV X.K "tuple" v0 H1 ∧ rCntT X.K v0 [.str z] H1 Q) ?_ w
  intro H A x y vx Q hA rx hz k
  cases x with
  | str w =>
    obtain ⟨e, _⟩ := rx.str
    have hz' : (match tblLook t w with | some (.tuple xs) => (allS xs).map fun ys => PyData.int (ys.count z : Nat) | _ => none) = some y := hz
    split at hz'
    · rename_i xs hl
      obtain ⟨ys, h5, h6⟩ := Option.map_eq_some_iff.mp hz'
      subst h6
      obtain ⟨u, v, h1, h2, h3⟩ := D.yes w _ hl
      obtain ⟨a, o, h7, h8, h9, h10⟩ := C.plain w _ hl
      rw [h1] at h7
      cases h7
      have r := h3 hno (fun _ => True)
      obtain ⟨a', vs, e1, tt, hl2, r'⟩ := r.tup
      subst e1
      cases h2
      have sq : SqT X.K hno a vs := tt.elim (fun z => absurd trivial z.1) id
      have ev := allS_rep h5 r'
      subst ev
      exact ⟨w, _, .ref a, rfl, e, h1, rfl, .inr (.inl ⟨rfl, o, h8, h9, h10⟩), a, ys, z, rfl, rfl, sqT_no sq, k _ _ Frm.refl rep_int⟩
    · cases hz'
  | _ => cases hz
end
end DL

namespace DL
open PySem PySem.Spec PyProof.Rows L2
/-! ### an own list that is changed no more: a thing from here on -/
section
variable {X : Cx} {K : PySem.W.Frag} {io : List Nat} {g : Sf}
theorem EOk.frz {Γ : Gm} {ad : Nat → Addr} {σ : L2.St} {H : Hp} {E : Env'} (ok : EOk K Γ io ad σ H E) {i : Nat} (hi : i ∉ io) {xs : List PyData} (he : E[i]? = some (B.o (.lst xs))) :
    EOk K Γ io ad σ H (E.set i (B.v (.list xs))) ∧ ∀ a, Own io ad (E.set i (B.v (.list xs))) a → Own io ad E a := by
  have hl : i < E.length := (List.getElem?_eq_some_iff.mp he).1
  have back : ∀ (j : Nat) (m : M), (E.set i (B.v (.list xs)))[j]? = some (B.o m) → E[j]? = some (B.o m) := fun j m z => by
    by_cases q : i = j
    · subst q
      rw [List.getElem?_set_self hl] at z; cases z
    · rw [List.getElem?_set_ne q] at z; exact z
  have sub : ∀ a, Own io ad (E.set i (B.v (.list xs))) a → Own io ad E a := fun a ⟨j, m, h1, h2, h3⟩ => ⟨j, m, h1, back j m h2, h3⟩
  have g : Go H (Ao Γ io ad E) H (Ao Γ io ad (E.set i (B.v (.list xs)))) := Go.less fun a h => h.elim .inl fun z => .inr (sub a z)
  refine ⟨⟨by rw [List.length_set]; exact ok.len, ok.w, ok.oA, ok.hk, fun j d' z => ?_, fun j m z => ?_, fun j m z => ok.obi j m (back j m z), fun j m z => ok.obn j m (back j m z), fun j k m m' z1 z2 => ok.inj j k m m' (back j m z1) (back k m' z2)⟩, sub⟩
  · by_cases q : i = j
    · subst q
      rw [List.getElem?_set_self hl] at z
      cases z
      obtain ⟨h1, vs, h2, h3, h4⟩ := ok.ob i _ he
      refine ⟨_, h1, rep_lst ⟨fun w => ?_, .inl h2⟩ h3 (g.repL xs vs h4)⟩
      rcases w with w | ⟨j, m, w1, w2, w3⟩
      · exact (ok.obn i _ he hi).2 w
      · have e := ok.inj i j _ _ he (back j m w2) w3
        subst e
        rw [List.getElem?_set_self hl] at w2
        cases w2
    · rw [List.getElem?_set_ne q] at z
      obtain ⟨u, h1, h2⟩ := ok.vl j d' z
      exact ⟨u, h1, g.rep d' u h2⟩
  · have z' := back j m z
    obtain ⟨h1, h2⟩ := ok.ob j m z'
    refine ⟨h1, ?_⟩
    cases m with
    | lst xs => obtain ⟨vs, z0, z1, z2⟩ := h2; exact ⟨vs, z0, z1, g.repL xs vs z2⟩
def sFrz (i : Nat) : Sf := fun E => match E[i]? with
  | some (.o (.lst xs)) => some (.nx (E.set i (B.v (.list xs))))
  | _ => none
theorem ds_frz {i : Nat} {sts : List Stmt} (hi : i ∉ io) (h : PSs X sts (sD X.K io g)) : PSs X sts (sD X.K io (sSeq (sFrz i) g)) := h.imp fun Dn σ H w => by
  obtain ⟨Γ, ad, E, o, ok, he, p⟩ := w
  obtain ⟨o1, h1, h2⟩ := Option.bind_eq_some_iff.mp he
  unfold sFrz at h1
  split at h1
  · rename_i xs hx
    cases h1
    obtain ⟨ok2, sub⟩ := ok.frz hi hx
    exact ⟨Γ, ad, _, o, ok2, h2, p.after ⟨Frm.refl, fun a h => .inl (sub a h), fun _ _ => rfl⟩⟩
  · cases h1
end
theorem RoomG.units65 {k : Nat} {A : Around} (h : RoomG k A) : A.units + 65 < cLine := by
  have := h.rm.un
  omega
end DL

namespace DL
open PySem PySem.Spec PyProof.Rows L2
/-! ### what an expression, a statement, a call leads to -/
/-- keeps simp out of what hangs on b -/
structure Tg {β : Sort _} (b : β) : Type where mk ::
def wo {β : Type} (o : Option β) (Q : β → Prop) (_t : Tg Q := ⟨⟩) : Prop := ∃ z, o = some z ∧ Q z
def we {α : Type} (f : Ev α) (E : Env') (Q : α → Env' → Prop) (_t : Tg Q := ⟨⟩) (_u : Tg f := ⟨⟩) : Prop := ∃ r, f E = some r ∧ Q r.1 r.2
def ws (f : Sf) (E : Env') (Q : O → Prop) (_t : Tg Q := ⟨⟩) (_u : Tg f := ⟨⟩) : Prop := ∃ o, f E = some o ∧ Q o
def wc {α : Type} (fn : Env' → Option (α × Env')) (A : Env') (Q : α → Env' → Prop) (_t : Tg Q := ⟨⟩) : Prop := ∃ r, fn A = some r ∧ Q r.1 r.2
def wif (b : Bool) (P Q : Prop) (_t : Tg P := ⟨⟩) (_u : Tg Q := ⟨⟩) : Prop := if b = true then P else Q
def wo0 {β : Type} (o : Option β) (Q : β → Prop) : Prop := ∃ z, o = some z ∧ Q z
def wif0 (b : Bool) (P Q : Prop) : Prop := if b = true then P else Q
theorem wo_0 {β : Type} (o : Option β) (Q : β → Prop) : wo o Q = wo0 o Q := rfl
theorem wif_0 (b : Bool) (P Q : Prop) : wif b P Q = wif0 b P Q := rfl
theorem wo0_some {β : Type} (z : β) (Q : β → Prop) : wo0 (some z) Q = Q z := by simp [wo0]
theorem wo0_none {β : Type} (Q : β → Prop) : wo0 none Q = False := by simp [wo0]
theorem wo0_bind {α β : Type} (x : Option α) (f : α → Option β) (Q : β → Prop) : wo0 (x.bind f) Q = wo0 x fun r => wo0 (f r) Q := by
  cases x <;> simp [wo0]
theorem wo0_map {α β : Type} (x : Option α) (f : α → β) (Q : β → Prop) : wo0 (x.map f) Q = wo0 x fun r => Q (f r) := by
  cases x <;> simp [wo0]
theorem wo0_ite {β : Type} (c : Prop) [Decidable c] (x y : Option β) (Q : β → Prop) : wo0 (if c then x else y) Q = wif0 (decide c) (wo0 x Q) (wo0 y Q) := by
  by_cases h : c <;> simp [h, wif0]
theorem wo0_ifb {β : Type} (c : Bool) (x y : Option β) (Q : β → Prop) : wo0 (if c = true then x else y) Q = wif0 c (wo0 x Q) (wo0 y Q) := by
  cases c <;> simp [wif0]
def wk (g : Sf) (Q : O → Prop) : O → Prop
  | .nx E => ws g E Q
  | o => Q o
def wr (io : List Nat) (Q : PyData → Env' → Prop) : O → Prop
  | .rt d E => Q d (outs io E)
  | .nx E => Q .none (outs io E)
  | _ => False
section
variable {α β γ : Type}
theorem wif_t (P Q : Prop) : wif true P Q = P := by simp [wif]
theorem wif_f (P Q : Prop) : wif false P Q = Q := by simp [wif]
theorem wif_by {b : Bool} {P Q : Prop} (h : b = true → P) (k : b = false → Q) : wif b P Q := by
  cases b
  · rw [wif_f]; exact k rfl
  · rw [wif_t]; exact h rfl
theorem wo_some (z : β) (Q : β → Prop) : wo (some z) Q = Q z := by simp [wo]
theorem wo_none (Q : β → Prop) : wo none Q = False := by simp [wo]
theorem wo_bind (x : Option α) (f : α → Option β) (Q : β → Prop) : wo (x.bind f) Q = wo x fun r => wo (f r) Q := by
  cases x <;> simp [wo]
theorem wo_map (x : Option α) (f : α → β) (Q : β → Prop) : wo (x.map f) Q = wo x fun r => Q (f r) := by
  cases x <;> simp [wo]
theorem wo_ite (c : Prop) [Decidable c] (x y : Option β) (Q : β → Prop) : wo (if c then x else y) Q = wif (decide c) (wo x Q) (wo y Q) := by
  by_cases h : c <;> simp [h, wif]
theorem wo_ifb (c : Bool) (x y : Option β) (Q : β → Prop) : wo (if c = true then x else y) Q = wif c (wo x Q) (wo y Q) := by
  cases c <;> simp [wif]
theorem we_o (f : Ev α) (E : Env') (Q : α → Env' → Prop) : we f E Q = wo0 (f E) fun r => Q r.1 r.2 := rfl
theorem ws_o (f : Sf) (E : Env') (Q : O → Prop) : ws f E Q = wo0 (f E) Q := rfl
theorem wk_nx (g : Sf) (Q : O → Prop) (E : Env') : wk g Q (.nx E) = ws g E Q := rfl
theorem wk_rt (g : Sf) (Q : O → Prop) (d : PyData) (E : Env') : wk g Q (.rt d E) = Q (.rt d E) := rfl
theorem wk_bk (g : Sf) (Q : O → Prop) (E : Env') : wk g Q (.bk E) = Q (.bk E) := rfl
theorem wk_ct (g : Sf) (Q : O → Prop) (E : Env') : wk g Q (.ct E) = Q (.ct E) := rfl
theorem wr_rt (io : List Nat) (Q : PyData → Env' → Prop) (d : PyData) (E : Env') : wr io Q (.rt d E) = Q d (outs io E) := rfl
theorem wr_nx (io : List Nat) (Q : PyData → Env' → Prop) (E : Env') : wr io Q (.nx E) = Q .none (outs io E) := rfl
/-! expressions -/
theorem we_C (d : PyData) (E : Env') (Q : PyData → Env' → Prop) : we (fC d) E Q = Q d E := by simp [we, fC]
theorem we_f1 (g : α → Option β) (fa : Ev α) (E : Env') (Q : β → Env' → Prop) : we (f1 g fa) E Q = we fa E fun x E1 => wo (g x) fun z => Q z E1 := by
  simp only [we_o, wo_0, wif_0, f1, wo0_bind, wo0_map]
theorem we_f2 (g : α → β → Option γ) (fa : Ev α) (fb : Ev β) (E : Env') (Q : γ → Env' → Prop) : we (f2 g fa fb) E Q = we fa E fun x E1 => we fb E1 fun y E2 => wo (g x y) fun z => Q z E2 := by
  simp only [we_o, wo_0, wif_0, f2, wo0_bind, wo0_map]
theorem we_f1s (g : PyData → Option β) (i : Nat) (E : Env') (Q : β → Env' → Prop) : we (f1s g i) E Q = wo (getO i E) fun xs => wo (g (.list xs)) fun z => Q z E := by
  rcases h : E[i]? with _ | (_ | d | ⟨⟨xs⟩⟩) <;> simp only [we_o, wo_0, wif_0, f1s, wo0_bind, wo0_map, ownL, getO, h, wo0_some, wo0_none]
theorem ownL_getO (i : Nat) (E : Env') : ownL i E = (getO i E).map PyData.list := by
  rcases h : E[i]? with _ | (_ | d | ⟨⟨xs⟩⟩) <;> simp [ownL, getO, h]
theorem we_f2l (g : PyData → PyData → Option γ) (i : Nat) (fb : Ef) (E : Env') (Q : γ → Env' → Prop) : we (f2l g i fb) E Q = wo (getO i E) fun _ => we fb E fun y E1 => wo (getO i E1) fun xs => wo (g (.list xs) y) fun z => Q z E1 := by
  simp only [we_o, wo_0, wif_0, f2l, wo0_bind, wo0_map, ownL_getO]
theorem we_f2r (g : PyData → PyData → Option γ) (fa : Ef) (i : Nat) (E : Env') (Q : γ → Env' → Prop) : we (f2r g fa i) E Q = we fa E fun x E1 => wo (getO i E1) fun ys => wo (g x (.list ys)) fun z => Q z E1 := by
  simp only [we_o, wo_0, wif_0, f2r, wo0_bind, wo0_map, ownL_getO]
theorem we_aNil (E : Env') (Q : List G → Env' → Prop) : we aNil E Q = Q [] E := by simp [we, aNil]
theorem we_aV (fe : Ef) (fr : Af) (E : Env') (Q : List G → Env' → Prop) : we (aV fe fr) E Q = we fe E fun d E1 => we fr E1 fun gs E2 => Q (.v d :: gs) E2 := by
  simp only [we_o, wo_0, wif_0, aV, wo0_bind, wo0_map]
theorem we_aS (i : Nat) (fr : Af) (E : Env') (Q : List G → Env' → Prop) : we (aS i fr) E Q = wo (getO i E) fun _ => we fr E fun gs E2 => Q (.s i :: gs) E2 := by
  rcases h : E[i]? with _ | (_ | d | ⟨⟨xs⟩⟩) <;> simp [we_o, wo_0, aS, getO, h, wo0]
  constructor
  · rintro ⟨a, b, ⟨c, h1, rfl⟩, h2⟩; exact ⟨c, b, h1, h2⟩
  · rintro ⟨a, b, h1, h2⟩; exact ⟨_, b, ⟨a, h1, rfl⟩, h2⟩
theorem resAll_nil (E : Env') : resAll E [] = some [] := rfl
theorem resAll_v (E : Env') (d : PyData) (gs : List G) : resAll E (.v d :: gs) = (resAll E gs).map fun ds => d :: ds := rfl
theorem resAll_s (E : Env') (i : Nat) (gs : List G) : resAll E (.s i :: gs) = (getO i E).bind fun xs => (resAll E gs).map fun ds => .list xs :: ds := by
  show (ownL i E).bind _ = _
  rw [ownL_getO]
  cases getO i E <;> rfl
theorem we_fB (g : List PyData → Option β) (fr : Af) (E : Env') (Q : β → Env' → Prop) : we (fB g fr) E Q = we fr E fun gs E1 => wo (resAll E1 gs) fun ds => wo (g ds) fun z => Q z E1 := by
  simp only [we_o, wo_0, wif_0, fB, wo0_bind, wo0_map]
theorem we_fZ (g : List PyData → Option β) (fr : Af) (E : Env') (Q : β → Env' → Prop) : we (fZ g fr) E Q = we fr E fun gs E1 => wo (onlyV gs) fun ds => wo (g ds) fun z => Q z E1 := by
  simp only [we_o, wo_0, wif_0, fZ, wo0_bind, wo0_map]
theorem onlyV_nil : onlyV [] = some [] := rfl
theorem onlyV_v (d : PyData) (gs : List G) : onlyV (.v d :: gs) = (onlyV gs).map fun ds => d :: ds := rfl
theorem we_fDisp (mk : List PyData → PyData) (fr : Af) (E : Env') (Q : PyData → Env' → Prop) : we (fDisp mk fr) E Q = we fr E fun gs E1 => wo (onlyV gs) fun ds => wif (decide (ds.length ≤ 16777216)) (Q (mk ds) E1) False := by
  simp only [we_o, wo_0, wif_0, fDisp, wo0_bind, wo0_ite, wo0_some, wo0_none]
  rfl
theorem we_fLst1 (fr : Af) (E : Env') (Q : List PyData → Env' → Prop) : we (fLst1 fr) E Q = we fr E fun gs E1 => wo (onlyV gs) fun ds => wif (decide (ds.length ≤ 16777216)) (Q ds E1) False := by
  simp only [we_o, wo_0, wif_0, fLst1, wo0_bind, wo0_ite, wo0_some, wo0_none]
  rfl
theorem we_vL (fl : Lf) (E : Env') (Q : PyData → Env' → Prop) : we (vL fl) E Q = we fl E fun xs E1 => Q (.list xs) E1 := by
  simp only [we_o, wo_0, wif_0, vL, wo0_map]
theorem we_gYes (E : Env') (Q : Bool → Env' → Prop) : we gYes E Q = Q true E := by simp [we, gYes]
theorem we_pNo (E : Env') (Q : Option Int → Env' → Prop) : we pNo E Q = Q none E := by simp [we, pNo]
theorem we_fSl (fa : Ef) (pl ph : Ev (Option Int)) (E : Env') (Q : PyData → Env' → Prop) : we (fSl fa pl ph) E Q = we fa E fun x E1 => we pl E1 fun l E2 => we ph E2 fun h E3 => wo (oSl x l h) fun z => Q z E3 := by
  simp only [we_o, wo_0, wif_0, fSl, wo0_bind, wo0_map]
theorem we_fSls (i : Nat) (pl ph : Ev (Option Int)) (E : Env') (Q : PyData → Env' → Prop) : we (fSls i pl ph) E Q = wo (getO i E) fun _ => we pl E fun l E2 => we ph E2 fun h E3 => wo (getO i E3) fun xs => wo (oSl (.list xs) l h) fun z => Q z E3 := by
  simp only [we_o, wo_0, wif_0, fSls, wo0_bind, wo0_map, ownL_getO]
theorem we_fChain (g g' : PyData → PyData → Option PyData) (fa fb fc : Ef) (E : Env') (Q : PyData → Env' → Prop) : we (fChain g g' fa fb fc) E Q = we fa E fun x E1 => we fb E1 fun y E2 => wo (g x y) fun z => wo (asB z) fun k => wif k (we fc E2 fun t E3 => wo (g' y t) fun z => Q z E3) (Q (.bool false) E2) := by
  simp only [we_o, wo_0, wif_0, fChain, wo0_bind, wo0_ifb, wo0_map, wo0_some]
theorem we_fAnd (ga gb : Ev Bool) (E : Env') (Q : Bool → Env' → Prop) : we (fAnd ga gb) E Q = we ga E fun b E1 => wif b (we gb E1 Q) (Q false E1) := by
  simp only [we_o, wo_0, wif_0, fAnd, wo0_bind, wo0_ifb, wo0_some]
theorem we_fOr (ga gb : Ev Bool) (E : Env') (Q : Bool → Env' → Prop) : we (fOr ga gb) E Q = we ga E fun b E1 => wif b (Q true E1) (we gb E1 Q) := by
  simp only [we_o, wo_0, wif_0, fOr, wo0_bind, wo0_ifb, wo0_some]
theorem we_fAndV (fa fb : Ef) (E : Env') (Q : PyData → Env' → Prop) : we (fAndV fa fb) E Q = we fa E fun d E1 => wo (truD d) fun k => wif k (we fb E1 Q) (Q d E1) := by
  simp only [we_o, wo_0, wif_0, fAndV, wo0_bind, wo0_ifb, wo0_some]
theorem we_fOrV (fa fb : Ef) (E : Env') (Q : PyData → Env' → Prop) : we (fOrV fa fb) E Q = we fa E fun d E1 => wo (truD d) fun k => wif k (Q d E1) (we fb E1 Q) := by
  simp only [we_o, wo_0, wif_0, fOrV, wo0_bind, wo0_ifb, wo0_some]
theorem we_fIf (gc : Ev Bool) (fa fb : Ef) (E : Env') (Q : PyData → Env' → Prop) : we (fIf gc fa fb) E Q = we gc E fun b E1 => wif b (we fa E1 Q) (we fb E1 Q) := by
  simp only [we_o, wo_0, wif_0, fIf, wo0_bind, wo0_ifb]
theorem we_fIfC (gc ga gb : Ev Bool) (E : Env') (Q : Bool → Env' → Prop) : we (fIfC gc ga gb) E Q = we gc E fun b E1 => wif b (we ga E1 Q) (we gb E1 Q) := by
  simp only [we_o, wo_0, wif_0, fIfC, wo0_bind, wo0_ifb]
/-! calls -/
def wp (E : Env') (is : List Nat) (Q : Env' → Prop) (os : Env') (_t : Tg Q := ⟨⟩) : Prop := wo (putB E is os) Q
theorem wp_nil (E : Env') (Q : Env' → Prop) : wp E [] Q [] = Q E := by simp [wp, putB, wo]
theorem wp_cons (E : Env') (i : Nat) (is : List Nat) (Q : Env' → Prop) (m : M) (os : Env') : wp E (i :: is) Q (B.o m :: os) = wp (E.set i (B.o m)) is Q os := by simp [wp, putB]
theorem k_outs_nil (E : Env') : outs [] E = [] := rfl
theorem k_outs_cons (i : Nat) (io : List Nat) (E : Env') : outs (i :: io) E = (E[i]?).getD B.u :: outs io E := rfl
theorem slots_nil (k : Nat) : slotsG [] k = [] := rfl
theorem slots_v (d : PyData) (gs : List G) (k : Nat) : slotsG (.v d :: gs) k = slotsG gs (k + 1) := rfl
theorem slots_s (i : Nat) (gs : List G) (k : Nat) : slotsG (.s i :: gs) k = (k, i) :: slotsG gs (k + 1) := rfl
theorem kB_nil (E : Env') : argB E [] = some [] := rfl
theorem kB_v (E : Env') (d : PyData) (gs : List G) : argB E (.v d :: gs) = (argB E gs).map fun bs => B.v d :: bs := rfl
theorem kB_s (E : Env') (i : Nat) (gs : List G) : argB E (.s i :: gs) = (getO i E).bind fun xs => (argB E gs).map fun bs => B.o (.lst xs) :: bs := by
  rcases h : E[i]? with _ | (_ | d | ⟨⟨xs⟩⟩) <;> simp [argB, getO, h]
theorem we_fCall (io : List Nat) (fn : Fn) (args : Af) (E : Env') (Q : PyData → Env' → Prop) : we (fCall io fn args) E Q = we args E fun gs E1 => wif (decide ((slotsG gs 0).map (·.1) = io ∧ ((slotsG gs 0).map (·.2)).Nodup)) (wo (argB E1 gs) fun bs => wc fn bs fun d os => wp E1 ((slotsG gs 0).map (·.2)) (fun E' => Q d E') os) False := by
  simp only [we_o, wo_0, wif_0, fCall, wo0_bind, wo0_ite, wo0_none, wo0_map]
  rfl
theorem we_fCallL (fn : FnL) (args : Af) (E : Env') (Q : List PyData → Env' → Prop) : we (fCallL fn args) E Q = we args E fun gs E1 => wo (onlyV gs) fun ds => wc fn (ds.map B.v) fun d _ => Q d E1 := by
  simp only [we_o, wo_0, wif_0, fCallL, wo0_bind, wo0_map]
  rfl
theorem wc_eq {fn : Env' → Option (α × Env')} {A : Env'} {d : α} {os : Env'} (h : fn A = some (d, os)) (Q : α → Env' → Prop) : wc fn A Q = Q d os := by simp [wc, h]
theorem wc_of {fn : Env' → Option (α × Env')} {A : Env'} {Q Q' : α → Env' → Prop} (h : wc fn A Q') (k : ∀ d os, Q' d os → Q d os) : wc fn A Q := by
  obtain ⟨r, h1, h2⟩ := h
  exact ⟨r, h1, k _ _ h2⟩
theorem of_wc {fn : Env' → Option (α × Env')} {A : Env'} {d : α} {os : Env'} (h : wc fn A fun d' os' => d' = d ∧ os' = os) : fn A = some (d, os) := by
  obtain ⟨r, h1, h2, h3⟩ := h
  rw [h1, ← h2, ← h3]
theorem wc_body (io : List Nat) (pad : Nat) (f : Sf) (A : Env') (Q : PyData → Env' → Prop) : wc (bodyFn io pad f) A Q = ws f (A ++ List.replicate pad B.u) (wr io Q) := by
  unfold wc bodyFn ws
  cases h : f (A ++ List.replicate pad B.u) with
  | none => simp
  | some o => cases o <;> simp [wr]
theorem wc_bodyL (io : List Nat) (pad : Nat) (f : Lf) (A : Env') (Q : List PyData → Env' → Prop) : wc (bodyFnL io pad f) A Q = we f (A ++ List.replicate pad B.u) fun xs E => Q xs (outs io E) := by
  unfold wc bodyFnL we
  cases h : f (A ++ List.replicate pad B.u) with
  | none => simp
  | some o => simp
def aK (gs : List G) : Af := fun E => some (gs, E)
theorem we_aK (gs : List G) (E : Env') (Q : List G → Env' → Prop) : we (aK gs) E Q = Q gs E := by simp [we, aK]
theorem we_fCallT (io io' : List Nat) (fn : Fn) (fr : Af) (fl : Lf) (E : Env') (Q : PyData → Env' → Prop) : we (fCallT io io' fn fr fl) E Q = we fr E fun gs E1 => we fl E1 fun xs E2 => wif (decide (E2.length ∈ io ∨ slotLt E2.length gs = false)) False (we (fCall io' fn (aK (gs ++ [.s E2.length]))) (E2 ++ [B.o (.lst xs)]) fun d E3 => Q d (E3.take E2.length)) := by
  simp only [we_o, wo_0, wif_0, fCallT, wo0_bind, wo0_ite, wo0_none, wo0_map]
  rfl
theorem slotLt_nil (N : Nat) : slotLt N [] = true := rfl
theorem slotLt_v (N : Nat) (d : PyData) (gs : List G) : slotLt N (.v d :: gs) = slotLt N gs := rfl
theorem slotLt_s (N i : Nat) (gs : List G) : slotLt N (.s i :: gs) = (decide (i < N) && slotLt N gs) := rfl
/-! statements -/
theorem ws_seq (f g : Sf) (E : Env') (Q : O → Prop) : ws (sSeq f g) E Q = ws f E (wk g Q) := by
  unfold ws sSeq
  cases h : f E with
  | none => simp
  | some o => cases o <;> simp [wk, ws]
theorem we_qSeq (f : Sf) (g : Lf) (E : Env') (Q : List PyData → Env' → Prop) : we (qSeq f g) E Q = ws f E fun o => match o with | .nx E1 => we g E1 Q | _ => False := by
  unfold we ws qSeq
  cases h : f E with
  | none => simp
  | some o => cases o <;> simp
theorem ws_nil (E : Env') (Q : O → Prop) : ws sNil E Q = Q (.nx E) := by simp [ws, sNil]
theorem ws_bk (E : Env') (Q : O → Prop) : ws sBk E Q = Q (.bk E) := by simp [ws, sBk]
theorem ws_ct (E : Env') (Q : O → Prop) : ws sCt E Q = Q (.ct E) := by simp [ws, sCt]
theorem ws_ret (fa : Ef) (E : Env') (Q : O → Prop) : ws (sRet fa) E Q = we fa E fun d E1 => Q (.rt d E1) := by
  simp only [we_o, wo_0, wif_0, ws_o, sRet, wo0_map]
theorem ws_retN (E : Env') (Q : O → Prop) : ws sRetN E Q = Q (.rt .none E) := by simp [ws, sRetN]
theorem ws_retO (i : Nat) (E : Env') (Q : O → Prop) : ws (sRetO i) E Q = wo (getO i E) fun xs => Q (.rt (.list xs) E) := by
  rcases h : E[i]? with _ | (_ | d | ⟨⟨xs⟩⟩) <;> simp [ws, sRetO, getO, h, wo]
theorem ws_if (gc : Ev Bool) (f g : Sf) (E : Env') (Q : O → Prop) : ws (sIf gc f g) E Q = we gc E fun b E1 => wif b (ws f E1 Q) (ws g E1 Q) := by
  simp only [we_o, wo_0, wif_0, ws_o, sIf, wo0_bind, wo0_ifb]
theorem ws_expr (fa : Ef) (E : Env') (Q : O → Prop) : ws (sExpr fa) E Q = we fa E fun _ E1 => Q (.nx E1) := by
  simp only [we_o, wo_0, wif_0, ws_o, sExpr, wo0_map]
theorem ws_asg (fa : Ef) (τ : Tf) (E : Env') (Q : O → Prop) : ws (sAsg fa τ) E Q = we fa E fun d E1 => wo (τ d) fun as => Q (.nx (setE E1 as)) := by
  simp only [we_o, wo_0, wif_0, ws_o, sAsg, wo0_bind, wo0_map]
theorem ws_asgN (fa : Ef) (i : Nat) (E : Env') (Q : O → Prop) : ws (sAsg fa (τN i)) E Q = we fa E fun d E1 => Q (.nx (E1.set i (B.v d))) := by
  simp only [we_o, wo_0, ws_asg, τN, wo0_some, setE]
theorem ws_par2 (i j : Nat) (fr : Af) (E : Env') (Q : O → Prop) : ws (sPar2 i j fr) E Q = we fr E fun gs E1 => wo (onlyV gs) fun ds => match ds with | [x, y] => Q (.nx ((E1.set i (B.v x)).set j (B.v y))) | _ => False := by
  simp only [we_o, wo_0, wif_0, ws_o, sPar2, wo0_bind]
  congr 1
  funext r
  congr 1
  funext ds
  split
  · simp only [wo0_some, setE]
  · rename_i h
    first
      | (split
         · rename_i x y; exact absurd rfl (h x y)
         · simp only [wo0_none])
      | simp only [wo0_none]
theorem ws_par3 (i j l : Nat) (fr : Af) (E : Env') (Q : O → Prop) : ws (sPar3 i j l fr) E Q = we fr E fun gs E1 => wo (onlyV gs) fun ds => match ds with | [x, y, z] => Q (.nx (((E1.set i (B.v x)).set j (B.v y)).set l (B.v z))) | _ => False := by
  simp only [we_o, wo_0, wif_0, ws_o, sPar3, wo0_bind]
  congr 1
  funext r
  congr 1
  funext ds
  split
  · simp only [wo0_some, setE]
  · rename_i h
    first
      | (split
         · rename_i x y z; exact absurd rfl (h x y z)
         · simp only [wo0_none])
      | simp only [wo0_none]
theorem ws_app (i : Nat) (fa : Ef) (E : Env') (Q : O → Prop) : ws (sApp i fa) E Q = wo (getO i E) fun _ => we fa E fun d E1 => wo (getO i E1) fun xs => wif (decide (xs.length < 16777216)) (Q (.nx (E1.set i (B.o (.lst (xs ++ [d])))))) False := by
  simp only [we_o, wo_0, wif_0, ws_o, sApp, wo0_bind, wo0_ite, wo0_some, wo0_none]
  rfl
theorem ws_setI (i : Nat) (fi fa : Ef) (E : Env') (Q : O → Prop) : ws (sSetI i fi fa) E Q = we fa E fun d E1 => wo (getO i E1) fun _ => we fi E1 fun k E2 => wo (getO i E2) fun xs => wo (match k with | .int k => ixN xs.length k | _ => none) fun j => Q (.nx (E2.set i (B.o (.lst (xs.set j d))))) := by
  simp only [we_o, wo_0, wif_0, ws_o, sSetI, wo0_bind]
  congr 1
  funext r
  congr 1
  funext xs
  congr 1
  funext s
  congr 1
  funext ys
  rcases s with ⟨s1, s2⟩
  cases s1 <;> simp only [wo0_map, wo0_none]
theorem ws_own (i : Nat) (f : Lf) (E : Env') (Q : O → Prop) : ws (sOwn i f) E Q = we f E fun xs E1 => wif (decide (i < E1.length)) (Q (.nx (E1.set i (B.o (.lst xs))))) False := by
  simp only [we_o, wo_0, wif_0, ws_o, sOwn, wo0_bind, wo0_ite, wo0_some, wo0_none]
/-- a for walk, by what holds when so many things are left -/
theorem ws_for {fl : Lf} {τ : Tf} {body : Sf} {E : Env'} {Q : O → Prop} (I : Nat → Env' → Prop)
    (h : we fl E fun ds E1 => I ds.length E1 ∧ (∀ d ∈ ds, ∀ n E, I (n + 1) E → ∃ as, τ d = some as ∧ ws body (setE E as) fun o => match o with | .nx E' => I n E' | .ct E' => I n E' | .bk E' => Q (.nx E') | .rt v E' => Q (.rt v E')) ∧ ∀ E, I 0 E → Q (.nx E)) :
    ws (sFor fl τ body) E Q := by
  obtain ⟨⟨ds, E1⟩, hl, h0, hs, hq⟩ := h
  have key : ∀ (ds : List PyData) (E1 : Env'), I ds.length E1 → (∀ d ∈ ds, ∀ n E, I (n + 1) E → ∃ as, τ d = some as ∧ ws body (setE E as) fun o => match o with | .nx E' => I n E' | .ct E' => I n E' | .bk E' => Q (.nx E') | .rt v E' => Q (.rt v E')) → ∃ o, forL τ body ds E1 = some o ∧ Q o := by
    intro ds
    induction ds with
    | nil => exact fun E1 h _ => ⟨_, rfl, hq _ h⟩
    | cons d ds ih =>
      intro E1 h hs
      obtain ⟨as, h1, o, h2, h3⟩ := hs d List.mem_cons_self _ E1 h
      unfold forL
      rw [h1]
      show ∃ o, (body (setE E1 as)).bind _ = some o ∧ Q o
      rw [h2]
      cases o with
      | nx E' => exact ih E' h3 fun d hd => hs d (List.mem_cons_of_mem _ hd)
      | ct E' => exact ih E' h3 fun d hd => hs d (List.mem_cons_of_mem _ hd)
      | bk E' => exact ⟨_, rfl, h3⟩
      | rt v E' => exact ⟨_, rfl, h3⟩
  obtain ⟨o, h1, h2⟩ := key ds E1 h0 hs
  exact ⟨o, by unfold sFor; rw [hl]; exact h1, h2⟩
/-- a for walk, by the things themselves: done, left -/
theorem ws_forD {fl : Lf} {τ : Tf} {body : Sf} {E : Env'} {Q : O → Prop} (I : List PyData → List PyData → Env' → Prop)
    (h : we fl E fun ds E1 => I [] ds E1 ∧ (∀ l d r E, ds = l ++ d :: r → I l (d :: r) E → ∃ as, τ d = some as ∧ ws body (setE E as) fun o => match o with | .nx E' => I (l ++ [d]) r E' | .ct E' => I (l ++ [d]) r E' | .bk E' => Q (.nx E') | .rt v E' => Q (.rt v E')) ∧ ∀ E, I ds [] E → Q (.nx E)) :
    ws (sFor fl τ body) E Q := by
  obtain ⟨⟨ds, E1⟩, hl, h0, hs, hq⟩ := h
  have key : ∀ (r l : List PyData) (E1 : Env'), ds = l ++ r → I l r E1 → ∃ o, forL τ body r E1 = some o ∧ Q o := by
    intro r
    induction r with
    | nil => exact fun l E1 e h => ⟨_, rfl, hq _ (by rw [show ds = l by rw [e, List.append_nil]]; exact h)⟩
    | cons d r ih =>
      intro l E1 e h
      obtain ⟨as, h1, o, h2, h3⟩ := hs l d r E1 e h
      unfold forL
      rw [h1]
      show ∃ o, (body (setE E1 as)).bind _ = some o ∧ Q o
      rw [h2]
      cases o with
      | nx E' => exact ih (l ++ [d]) E' (by rw [e]; simp) h3
      | ct E' => exact ih (l ++ [d]) E' (by rw [e]; simp) h3
      | bk E' => exact ⟨_, rfl, h3⟩
      | rt v E' => exact ⟨_, rfl, h3⟩
  obtain ⟨o, h1, h2⟩ := key ds [] E1 rfl h0
  exact ⟨o, by unfold sFor; rw [hl]; exact h1, h2⟩
/-- a comprehension whose items are told by a function -/
theorem we_lcP {vs : List Nat} {fl : Lf} {τ : Tf} {fe : Ef} {E : Env'} {Q : List PyData → Env' → Prop} (g : PyData → PyData)
    (h : we fl E fun ds E1 => vs.any (fun i => isOwn E1[i]?) = false ∧ (∀ d ∈ ds, wo (τ d) fun as => we fe (setE (wipeE E1 vs) as) fun x E2 => x = g d ∧ wipeE E2 vs = wipeE E1 vs) ∧ Q (ds.map g) (backE E1 (wipeE E1 vs) vs)) : we (fLc vs fl τ gYes fe) E Q := by
  obtain ⟨⟨ds, E1⟩, hl, ho, hs, hq⟩ := h
  refine ⟨_, fLc_pure (ds := ds) (E1 := E1) g hl ho rfl rfl fun d hd => ?_, hq⟩
  obtain ⟨as, h1, ⟨x, E2⟩, h2, h3, h4⟩ := hs d hd
  exact ⟨as, E2, h1, by rw [h2]; exact congrArg some (Prod.ext h3 rfl), h4⟩
theorem we_lcF {vs : List Nat} {fl : Lf} {τ : Tf} {gt : Ev Bool} {fe : Ef} {E : Env'} {Q : List PyData → Env' → Prop} (p : PyData → Bool) (g : PyData → PyData)
    (h : we fl E fun ds E1 => vs.any (fun i => isOwn E1[i]?) = false ∧ (∀ d ∈ ds, wo (τ d) fun as => we gt (setE (wipeE E1 vs) as) fun b E2 => b = p d ∧ wipeE E2 vs = wipeE E1 vs ∧ (p d = true → we fe E2 fun x E3 => x = g d ∧ wipeE E3 vs = wipeE E1 vs)) ∧ Q ((ds.filter p).map g) (backE E1 (wipeE E1 vs) vs)) : we (fLc vs fl τ gt fe) E Q := by
  obtain ⟨⟨ds, E1⟩, hl, ho, hs, hq⟩ := h
  refine ⟨_, fLc_filt (ds := ds) (E1 := E1) p g hl ho rfl rfl fun d hd => ?_, hq⟩
  obtain ⟨as, h1, ⟨b, E2⟩, h2, h3, h4, h5⟩ := hs d hd
  refine ⟨as, E2, h1, by rw [h2]; exact congrArg some (Prod.ext h3 rfl), h4, fun hp => ?_⟩
  obtain ⟨⟨x, E3⟩, h6, h7, h8⟩ := h5 hp
  exact ⟨E3, by rw [h6]; exact congrArg some (Prod.ext h7 rfl), h8⟩
/-- a comprehension that may draw: an invariant, and what is told of each item -/
theorem we_lcI {vs : List Nat} {fl : Lf} {τ : Tf} {fe : Ef} {E : Env'} {Q : List PyData → Env' → Prop} (I : Nat → Env' → Prop) (R : PyData → Prop)
    (h : we fl E fun ds E1 => vs.any (fun i => isOwn E1[i]?) = false ∧ I ds.length (wipeE E1 vs) ∧ (∀ d ∈ ds, ∀ n E2, I (n + 1) E2 → wo (τ d) fun as => we fe (setE E2 as) fun x E3 => R x ∧ I n (wipeE E3 vs)) ∧ ∀ xs E2, xs.length = ds.length → (∀ x ∈ xs, R x) → I 0 E2 → Q xs (backE E1 E2 vs)) : we (fLc vs fl τ gYes fe) E Q := by
  obtain ⟨⟨ds, E1⟩, hl, ho, h0, hs, hq⟩ := h
  have key : ∀ (ds : List PyData) (E2 : Env'), I ds.length E2 → (∀ d ∈ ds, ∀ n E2, I (n + 1) E2 → wo (τ d) fun as => we fe (setE E2 as) fun x E3 => R x ∧ I n (wipeE E3 vs)) → ∃ xs E3, lcL vs τ gYes fe ds E2 = some (xs, E3) ∧ xs.length = ds.length ∧ (∀ x ∈ xs, R x) ∧ I 0 E3 := by
    intro ds
    induction ds with
    | nil => exact fun E2 h _ => ⟨[], E2, rfl, rfl, fun _ h => (List.not_mem_nil h).elim, h⟩
    | cons d ds ih =>
      intro E2 h hs
      obtain ⟨as, h1, ⟨x, E3⟩, h2, h3, h4⟩ := hs d List.mem_cons_self _ E2 h
      obtain ⟨xs, E4, h5, h6, h7, h8⟩ := ih _ h4 fun d hd => hs d (List.mem_cons_of_mem _ hd)
      refine ⟨x :: xs, E4, ?_, by rw [List.length_cons, List.length_cons, h6], fun y hy => ?_, h8⟩
      · unfold lcL
        rw [h1]
        show ((fe (setE E2 as)).bind fun s => (lcL vs τ gYes fe ds (wipeE s.2 vs)).map fun t => (s.1 :: t.1, t.2)) = _
        rw [h2]
        show ((lcL vs τ gYes fe ds (wipeE E3 vs)).map fun t => (x :: t.1, t.2)) = _
        rw [h5]
        rfl
      · rcases List.mem_cons.mp hy with e | hy
        · subst e; exact h3
        · exact h7 y hy
  obtain ⟨xs, E3, h1, h2, h3, h4⟩ := key ds _ h0 hs
  refine ⟨(xs, backE E1 E3 vs), ?_, hq xs E3 h2 h3 h4⟩
  unfold fLc
  rw [hl]
  show (if (vs.any fun i => isOwn E1[i]?) = true then none else (lcL vs τ gYes fe ds (wipeE E1 vs)).map fun t => (t.1, backE E1 t.2 vs)) = _
  rw [ho, if_neg Bool.false_ne_true, h1]
  rfl
def unM : M → List PyData
  | .lst xs => xs
theorem unM_lst (xs : List PyData) : unM (.lst xs) = xs := rfl
theorem lst_unM (m : M) : M.lst (unM m) = m := by cases m; rfl
/-! a slot -/
theorem we_V (i : Nat) (E : Env') (Q : PyData → Env' → Prop) : we (fV i) E Q = wo (match E[i]? with | some (B.v d) => some d | _ => none) fun d => Q d E := by
  rcases h : E[i]? with _ | (_ | d | ⟨⟨xs⟩⟩) <;> simp [we, fV, h, wo]
theorem we_V0 (d : PyData) (E : Env') (Q : PyData → Env' → Prop) : we (fV 0) (B.v d :: E) Q = Q d (B.v d :: E) := by rw [we_V]; exact wo_some _ _
theorem getO_0 (m : M) (E : Env') : getO 0 (B.o m :: E) = some (unM m) := by cases m; rfl
theorem set_0 {α : Type} (b x : α) (E : List α) : (b :: E).set 0 x = x :: E := rfl
theorem at_0 {α : Type} (b : α) (E : List α) : (b :: E)[0]? = some b := rfl
theorem we_V1 (b0 : B) (d : PyData) (E : Env') (Q : PyData → Env' → Prop) : we (fV 1) (b0 :: B.v d :: E) Q = Q d (b0 :: B.v d :: E) := by rw [we_V]; exact wo_some _ _
theorem getO_1 (b0 : B) (m : M) (E : Env') : getO 1 (b0 :: B.o m :: E) = some (unM m) := by cases m; rfl
theorem set_1 {α : Type} (b0 : α) (b x : α) (E : List α) : (b0 :: b :: E).set 1 x = b0 :: x :: E := rfl
theorem at_1 {α : Type} (b0 : α) (b : α) (E : List α) : (b0 :: b :: E)[1]? = some b := rfl
theorem we_V2 (b0 b1 : B) (d : PyData) (E : Env') (Q : PyData → Env' → Prop) : we (fV 2) (b0 :: b1 :: B.v d :: E) Q = Q d (b0 :: b1 :: B.v d :: E) := by rw [we_V]; exact wo_some _ _
theorem getO_2 (b0 b1 : B) (m : M) (E : Env') : getO 2 (b0 :: b1 :: B.o m :: E) = some (unM m) := by cases m; rfl
theorem set_2 {α : Type} (b0 b1 : α) (b x : α) (E : List α) : (b0 :: b1 :: b :: E).set 2 x = b0 :: b1 :: x :: E := rfl
theorem at_2 {α : Type} (b0 b1 : α) (b : α) (E : List α) : (b0 :: b1 :: b :: E)[2]? = some b := rfl
theorem we_V3 (b0 b1 b2 : B) (d : PyData) (E : Env') (Q : PyData → Env' → Prop) : we (fV 3) (b0 :: b1 :: b2 :: B.v d :: E) Q = Q d (b0 :: b1 :: b2 :: B.v d :: E) := by rw [we_V]; exact wo_some _ _
theorem getO_3 (b0 b1 b2 : B) (m : M) (E : Env') : getO 3 (b0 :: b1 :: b2 :: B.o m :: E) = some (unM m) := by cases m; rfl
theorem set_3 {α : Type} (b0 b1 b2 : α) (b x : α) (E : List α) : (b0 :: b1 :: b2 :: b :: E).set 3 x = b0 :: b1 :: b2 :: x :: E := rfl
theorem at_3 {α : Type} (b0 b1 b2 : α) (b : α) (E : List α) : (b0 :: b1 :: b2 :: b :: E)[3]? = some b := rfl
theorem we_V4 (b0 b1 b2 b3 : B) (d : PyData) (E : Env') (Q : PyData → Env' → Prop) : we (fV 4) (b0 :: b1 :: b2 :: b3 :: B.v d :: E) Q = Q d (b0 :: b1 :: b2 :: b3 :: B.v d :: E) := by rw [we_V]; exact wo_some _ _
theorem getO_4 (b0 b1 b2 b3 : B) (m : M) (E : Env') : getO 4 (b0 :: b1 :: b2 :: b3 :: B.o m :: E) = some (unM m) := by cases m; rfl
theorem set_4 {α : Type} (b0 b1 b2 b3 : α) (b x : α) (E : List α) : (b0 :: b1 :: b2 :: b3 :: b :: E).set 4 x = b0 :: b1 :: b2 :: b3 :: x :: E := rfl
theorem at_4 {α : Type} (b0 b1 b2 b3 : α) (b : α) (E : List α) : (b0 :: b1 :: b2 :: b3 :: b :: E)[4]? = some b := rfl
theorem we_V5 (b0 b1 b2 b3 b4 : B) (d : PyData) (E : Env') (Q : PyData → Env' → Prop) : we (fV 5) (b0 :: b1 :: b2 :: b3 :: b4 :: B.v d :: E) Q = Q d (b0 :: b1 :: b2 :: b3 :: b4 :: B.v d :: E) := by rw [we_V]; exact wo_some _ _
theorem getO_5 (b0 b1 b2 b3 b4 : B) (m : M) (E : Env') : getO 5 (b0 :: b1 :: b2 :: b3 :: b4 :: B.o m :: E) = some (unM m) := by cases m; rfl
theorem set_5 {α : Type} (b0 b1 b2 b3 b4 : α) (b x : α) (E : List α) : (b0 :: b1 :: b2 :: b3 :: b4 :: b :: E).set 5 x = b0 :: b1 :: b2 :: b3 :: b4 :: x :: E := rfl
theorem at_5 {α : Type} (b0 b1 b2 b3 b4 : α) (b : α) (E : List α) : (b0 :: b1 :: b2 :: b3 :: b4 :: b :: E)[5]? = some b := rfl
theorem we_V6 (b0 b1 b2 b3 b4 b5 : B) (d : PyData) (E : Env') (Q : PyData → Env' → Prop) : we (fV 6) (b0 :: b1 :: b2 :: b3 :: b4 :: b5 :: B.v d :: E) Q = Q d (b0 :: b1 :: b2 :: b3 :: b4 :: b5 :: B.v d :: E) := by rw [we_V]; exact wo_some _ _
theorem getO_6 (b0 b1 b2 b3 b4 b5 : B) (m : M) (E : Env') : getO 6 (b0 :: b1 :: b2 :: b3 :: b4 :: b5 :: B.o m :: E) = some (unM m) := by cases m; rfl
theorem set_6 {α : Type} (b0 b1 b2 b3 b4 b5 : α) (b x : α) (E : List α) : (b0 :: b1 :: b2 :: b3 :: b4 :: b5 :: b :: E).set 6 x = b0 :: b1 :: b2 :: b3 :: b4 :: b5 :: x :: E := rfl
theorem at_6 {α : Type} (b0 b1 b2 b3 b4 b5 : α) (b : α) (E : List α) : (b0 :: b1 :: b2 :: b3 :: b4 :: b5 :: b :: E)[6]? = some b := rfl
theorem we_V7 (b0 b1 b2 b3 b4 b5 b6 : B) (d : PyData) (E : Env') (Q : PyData → Env' → Prop) : we (fV 7) (b0 :: b1 :: b2 :: b3 :: b4 :: b5 :: b6 :: B.v d :: E) Q = Q d (b0 :: b1 :: b2 :: b3 :: b4 :: b5 :: b6 :: B.v d :: E) := by rw [we_V]; exact wo_some _ _
theorem getO_7 (b0 b1 b2 b3 b4 b5 b6 : B) (m : M) (E : Env') : getO 7 (b0 :: b1 :: b2 :: b3 :: b4 :: b5 :: b6 :: B.o m :: E) = some (unM m) := by cases m; rfl
theorem set_7 {α : Type} (b0 b1 b2 b3 b4 b5 b6 : α) (b x : α) (E : List α) : (b0 :: b1 :: b2 :: b3 :: b4 :: b5 :: b6 :: b :: E).set 7 x = b0 :: b1 :: b2 :: b3 :: b4 :: b5 :: b6 :: x :: E := rfl
theorem at_7 {α : Type} (b0 b1 b2 b3 b4 b5 b6 : α) (b : α) (E : List α) : (b0 :: b1 :: b2 :: b3 :: b4 :: b5 :: b6 :: b :: E)[7]? = some b := rfl
theorem we_V8 (b0 b1 b2 b3 b4 b5 b6 b7 : B) (d : PyData) (E : Env') (Q : PyData → Env' → Prop) : we (fV 8) (b0 :: b1 :: b2 :: b3 :: b4 :: b5 :: b6 :: b7 :: B.v d :: E) Q = Q d (b0 :: b1 :: b2 :: b3 :: b4 :: b5 :: b6 :: b7 :: B.v d :: E) := by rw [we_V]; exact wo_some _ _
theorem getO_8 (b0 b1 b2 b3 b4 b5 b6 b7 : B) (m : M) (E : Env') : getO 8 (b0 :: b1 :: b2 :: b3 :: b4 :: b5 :: b6 :: b7 :: B.o m :: E) = some (unM m) := by cases m; rfl
theorem set_8 {α : Type} (b0 b1 b2 b3 b4 b5 b6 b7 : α) (b x : α) (E : List α) : (b0 :: b1 :: b2 :: b3 :: b4 :: b5 :: b6 :: b7 :: b :: E).set 8 x = b0 :: b1 :: b2 :: b3 :: b4 :: b5 :: b6 :: b7 :: x :: E := rfl
theorem at_8 {α : Type} (b0 b1 b2 b3 b4 b5 b6 b7 : α) (b : α) (E : List α) : (b0 :: b1 :: b2 :: b3 :: b4 :: b5 :: b6 :: b7 :: b :: E)[8]? = some b := rfl
theorem we_V9 (b0 b1 b2 b3 b4 b5 b6 b7 b8 : B) (d : PyData) (E : Env') (Q : PyData → Env' → Prop) : we (fV 9) (b0 :: b1 :: b2 :: b3 :: b4 :: b5 :: b6 :: b7 :: b8 :: B.v d :: E) Q = Q d (b0 :: b1 :: b2 :: b3 :: b4 :: b5 :: b6 :: b7 :: b8 :: B.v d :: E) := by rw [we_V]; exact wo_some _ _
theorem getO_9 (b0 b1 b2 b3 b4 b5 b6 b7 b8 : B) (m : M) (E : Env') : getO 9 (b0 :: b1 :: b2 :: b3 :: b4 :: b5 :: b6 :: b7 :: b8 :: B.o m :: E) = some (unM m) := by cases m; rfl
theorem set_9 {α : Type} (b0 b1 b2 b3 b4 b5 b6 b7 b8 : α) (b x : α) (E : List α) : (b0 :: b1 :: b2 :: b3 :: b4 :: b5 :: b6 :: b7 :: b8 :: b :: E).set 9 x = b0 :: b1 :: b2 :: b3 :: b4 :: b5 :: b6 :: b7 :: b8 :: x :: E := rfl
theorem at_9 {α : Type} (b0 b1 b2 b3 b4 b5 b6 b7 b8 : α) (b : α) (E : List α) : (b0 :: b1 :: b2 :: b3 :: b4 :: b5 :: b6 :: b7 :: b8 :: b :: E)[9]? = some b := rfl
theorem we_V10 (b0 b1 b2 b3 b4 b5 b6 b7 b8 b9 : B) (d : PyData) (E : Env') (Q : PyData → Env' → Prop) : we (fV 10) (b0 :: b1 :: b2 :: b3 :: b4 :: b5 :: b6 :: b7 :: b8 :: b9 :: B.v d :: E) Q = Q d (b0 :: b1 :: b2 :: b3 :: b4 :: b5 :: b6 :: b7 :: b8 :: b9 :: B.v d :: E) := by rw [we_V]; exact wo_some _ _
theorem getO_10 (b0 b1 b2 b3 b4 b5 b6 b7 b8 b9 : B) (m : M) (E : Env') : getO 10 (b0 :: b1 :: b2 :: b3 :: b4 :: b5 :: b6 :: b7 :: b8 :: b9 :: B.o m :: E) = some (unM m) := by cases m; rfl
theorem set_10 {α : Type} (b0 b1 b2 b3 b4 b5 b6 b7 b8 b9 : α) (b x : α) (E : List α) : (b0 :: b1 :: b2 :: b3 :: b4 :: b5 :: b6 :: b7 :: b8 :: b9 :: b :: E).set 10 x = b0 :: b1 :: b2 :: b3 :: b4 :: b5 :: b6 :: b7 :: b8 :: b9 :: x :: E := rfl
theorem at_10 {α : Type} (b0 b1 b2 b3 b4 b5 b6 b7 b8 b9 : α) (b : α) (E : List α) : (b0 :: b1 :: b2 :: b3 :: b4 :: b5 :: b6 :: b7 :: b8 :: b9 :: b :: E)[10]? = some b := rfl
theorem we_V11 (b0 b1 b2 b3 b4 b5 b6 b7 b8 b9 b10 : B) (d : PyData) (E : Env') (Q : PyData → Env' → Prop) : we (fV 11) (b0 :: b1 :: b2 :: b3 :: b4 :: b5 :: b6 :: b7 :: b8 :: b9 :: b10 :: B.v d :: E) Q = Q d (b0 :: b1 :: b2 :: b3 :: b4 :: b5 :: b6 :: b7 :: b8 :: b9 :: b10 :: B.v d :: E) := by rw [we_V]; exact wo_some _ _
theorem getO_11 (b0 b1 b2 b3 b4 b5 b6 b7 b8 b9 b10 : B) (m : M) (E : Env') : getO 11 (b0 :: b1 :: b2 :: b3 :: b4 :: b5 :: b6 :: b7 :: b8 :: b9 :: b10 :: B.o m :: E) = some (unM m) := by cases m; rfl
theorem set_11 {α : Type} (b0 b1 b2 b3 b4 b5 b6 b7 b8 b9 b10 : α) (b x : α) (E : List α) : (b0 :: b1 :: b2 :: b3 :: b4 :: b5 :: b6 :: b7 :: b8 :: b9 :: b10 :: b :: E).set 11 x = b0 :: b1 :: b2 :: b3 :: b4 :: b5 :: b6 :: b7 :: b8 :: b9 :: b10 :: x :: E := rfl
theorem at_11 {α : Type} (b0 b1 b2 b3 b4 b5 b6 b7 b8 b9 b10 : α) (b : α) (E : List α) : (b0 :: b1 :: b2 :: b3 :: b4 :: b5 :: b6 :: b7 :: b8 :: b9 :: b10 :: b :: E)[11]? = some b := rfl
theorem we_V12 (b0 b1 b2 b3 b4 b5 b6 b7 b8 b9 b10 b11 : B) (d : PyData) (E : Env') (Q : PyData → Env' → Prop) : we (fV 12) (b0 :: b1 :: b2 :: b3 :: b4 :: b5 :: b6 :: b7 :: b8 :: b9 :: b10 :: b11 :: B.v d :: E) Q = Q d (b0 :: b1 :: b2 :: b3 :: b4 :: b5 :: b6 :: b7 :: b8 :: b9 :: b10 :: b11 :: B.v d :: E) := by rw [we_V]; exact wo_some _ _
theorem getO_12 (b0 b1 b2 b3 b4 b5 b6 b7 b8 b9 b10 b11 : B) (m : M) (E : Env') : getO 12 (b0 :: b1 :: b2 :: b3 :: b4 :: b5 :: b6 :: b7 :: b8 :: b9 :: b10 :: b11 :: B.o m :: E) = some (unM m) := by cases m; rfl
theorem set_12 {α : Type} (b0 b1 b2 b3 b4 b5 b6 b7 b8 b9 b10 b11 : α) (b x : α) (E : List α) : (b0 :: b1 :: b2 :: b3 :: b4 :: b5 :: b6 :: b7 :: b8 :: b9 :: b10 :: b11 :: b :: E).set 12 x = b0 :: b1 :: b2 :: b3 :: b4 :: b5 :: b6 :: b7 :: b8 :: b9 :: b10 :: b11 :: x :: E := rfl
theorem at_12 {α : Type} (b0 b1 b2 b3 b4 b5 b6 b7 b8 b9 b10 b11 : α) (b : α) (E : List α) : (b0 :: b1 :: b2 :: b3 :: b4 :: b5 :: b6 :: b7 :: b8 :: b9 :: b10 :: b11 :: b :: E)[12]? = some b := rfl
theorem we_V13 (b0 b1 b2 b3 b4 b5 b6 b7 b8 b9 b10 b11 b12 : B) (d : PyData) (E : Env') (Q : PyData → Env' → Prop) : we (fV 13) (b0 :: b1 :: b2 :: b3 :: b4 :: b5 :: b6 :: b7 :: b8 :: b9 :: b10 :: b11 :: b12 :: B.v d :: E) Q = Q d (b0 :: b1 :: b2 :: b3 :: b4 :: b5 :: b6 :: b7 :: b8 :: b9 :: b10 :: b11 :: b12 :: B.v d :: E) := by rw [we_V]; exact wo_some _ _
theorem getO_13 (b0 b1 b2 b3 b4 b5 b6 b7 b8 b9 b10 b11 b12 : B) (m : M) (E : Env') : getO 13 (b0 :: b1 :: b2 :: b3 :: b4 :: b5 :: b6 :: b7 :: b8 :: b9 :: b10 :: b11 :: b12 :: B.o m :: E) = some (unM m) := by cases m; rfl
theorem set_13 {α : Type} (b0 b1 b2 b3 b4 b5 b6 b7 b8 b9 b10 b11 b12 : α) (b x : α) (E : List α) : (b0 :: b1 :: b2 :: b3 :: b4 :: b5 :: b6 :: b7 :: b8 :: b9 :: b10 :: b11 :: b12 :: b :: E).set 13 x = b0 :: b1 :: b2 :: b3 :: b4 :: b5 :: b6 :: b7 :: b8 :: b9 :: b10 :: b11 :: b12 :: x :: E := rfl
theorem at_13 {α : Type} (b0 b1 b2 b3 b4 b5 b6 b7 b8 b9 b10 b11 b12 : α) (b : α) (E : List α) : (b0 :: b1 :: b2 :: b3 :: b4 :: b5 :: b6 :: b7 :: b8 :: b9 :: b10 :: b11 :: b12 :: b :: E)[13]? = some b := rfl
theorem we_V14 (b0 b1 b2 b3 b4 b5 b6 b7 b8 b9 b10 b11 b12 b13 : B) (d : PyData) (E : Env') (Q : PyData → Env' → Prop) : we (fV 14) (b0 :: b1 :: b2 :: b3 :: b4 :: b5 :: b6 :: b7 :: b8 :: b9 :: b10 :: b11 :: b12 :: b13 :: B.v d :: E) Q = Q d (b0 :: b1 :: b2 :: b3 :: b4 :: b5 :: b6 :: b7 :: b8 :: b9 :: b10 :: b11 :: b12 :: b13 :: B.v d :: E) := by rw [we_V]; exact wo_some _ _
theorem getO_14 (b0 b1 b2 b3 b4 b5 b6 b7 b8 b9 b10 b11 b12 b13 : B) (m : M) (E : Env') : getO 14 (b0 :: b1 :: b2 :: b3 :: b4 :: b5 :: b6 :: b7 :: b8 :: b9 :: b10 :: b11 :: b12 :: b13 :: B.o m :: E) = some (unM m) := by cases m; rfl
theorem set_14 {α : Type} (b0 b1 b2 b3 b4 b5 b6 b7 b8 b9 b10 b11 b12 b13 : α) (b x : α) (E : List α) : (b0 :: b1 :: b2 :: b3 :: b4 :: b5 :: b6 :: b7 :: b8 :: b9 :: b10 :: b11 :: b12 :: b13 :: b :: E).set 14 x = b0 :: b1 :: b2 :: b3 :: b4 :: b5 :: b6 :: b7 :: b8 :: b9 :: b10 :: b11 :: b12 :: b13 :: x :: E := rfl
theorem at_14 {α : Type} (b0 b1 b2 b3 b4 b5 b6 b7 b8 b9 b10 b11 b12 b13 : α) (b : α) (E : List α) : (b0 :: b1 :: b2 :: b3 :: b4 :: b5 :: b6 :: b7 :: b8 :: b9 :: b10 :: b11 :: b12 :: b13 :: b :: E)[14]? = some b := rfl
theorem we_V15 (b0 b1 b2 b3 b4 b5 b6 b7 b8 b9 b10 b11 b12 b13 b14 : B) (d : PyData) (E : Env') (Q : PyData → Env' → Prop) : we (fV 15) (b0 :: b1 :: b2 :: b3 :: b4 :: b5 :: b6 :: b7 :: b8 :: b9 :: b10 :: b11 :: b12 :: b13 :: b14 :: B.v d :: E) Q = Q d (b0 :: b1 :: b2 :: b3 :: b4 :: b5 :: b6 :: b7 :: b8 :: b9 :: b10 :: b11 :: b12 :: b13 :: b14 :: B.v d :: E) := by rw [we_V]; exact wo_some _ _
theorem getO_15 (b0 b1 b2 b3 b4 b5 b6 b7 b8 b9 b10 b11 b12 b13 b14 : B) (m : M) (E : Env') : getO 15 (b0 :: b1 :: b2 :: b3 :: b4 :: b5 :: b6 :: b7 :: b8 :: b9 :: b10 :: b11 :: b12 :: b13 :: b14 :: B.o m :: E) = some (unM m) := by cases m; rfl
theorem set_15 {α : Type} (b0 b1 b2 b3 b4 b5 b6 b7 b8 b9 b10 b11 b12 b13 b14 : α) (b x : α) (E : List α) : (b0 :: b1 :: b2 :: b3 :: b4 :: b5 :: b6 :: b7 :: b8 :: b9 :: b10 :: b11 :: b12 :: b13 :: b14 :: b :: E).set 15 x = b0 :: b1 :: b2 :: b3 :: b4 :: b5 :: b6 :: b7 :: b8 :: b9 :: b10 :: b11 :: b12 :: b13 :: b14 :: x :: E := rfl
theorem at_15 {α : Type} (b0 b1 b2 b3 b4 b5 b6 b7 b8 b9 b10 b11 b12 b13 b14 : α) (b : α) (E : List α) : (b0 :: b1 :: b2 :: b3 :: b4 :: b5 :: b6 :: b7 :: b8 :: b9 :: b10 :: b11 :: b12 :: b13 :: b14 :: b :: E)[15]? = some b := rfl
theorem we_V16 (b0 b1 b2 b3 b4 b5 b6 b7 b8 b9 b10 b11 b12 b13 b14 b15 : B) (d : PyData) (E : Env') (Q : PyData → Env' → Prop) : we (fV 16) (b0 :: b1 :: b2 :: b3 :: b4 :: b5 :: b6 :: b7 :: b8 :: b9 :: b10 :: b11 :: b12 :: b13 :: b14 :: b15 :: B.v d :: E) Q = Q d (b0 :: b1 :: b2 :: b3 :: b4 :: b5 :: b6 :: b7 :: b8 :: b9 :: b10 :: b11 :: b12 :: b13 :: b14 :: b15 :: B.v d :: E) := by rw [we_V]; exact wo_some _ _
theorem getO_16 (b0 b1 b2 b3 b4 b5 b6 b7 b8 b9 b10 b11 b12 b13 b14 b15 : B) (m : M) (E : Env') : getO 16 (b0 :: b1 :: b2 :: b3 :: b4 :: b5 :: b6 :: b7 :: b8 :: b9 :: b10 :: b11 :: b12 :: b13 :: b14 :: b15 :: B.o m :: E) = some (unM m) := by cases m; rfl
theorem set_16 {α : Type} (b0 b1 b2 b3 b4 b5 b6 b7 b8 b9 b10 b11 b12 b13 b14 b15 : α) (b x : α) (E : List α) : (b0 :: b1 :: b2 :: b3 :: b4 :: b5 :: b6 :: b7 :: b8 :: b9 :: b10 :: b11 :: b12 :: b13 :: b14 :: b15 :: b :: E).set 16 x = b0 :: b1 :: b2 :: b3 :: b4 :: b5 :: b6 :: b7 :: b8 :: b9 :: b10 :: b11 :: b12 :: b13 :: b14 :: b15 :: x :: E := rfl
theorem at_16 {α : Type} (b0 b1 b2 b3 b4 b5 b6 b7 b8 b9 b10 b11 b12 b13 b14 b15 : α) (b : α) (E : List α) : (b0 :: b1 :: b2 :: b3 :: b4 :: b5 :: b6 :: b7 :: b8 :: b9 :: b10 :: b11 :: b12 :: b13 :: b14 :: b15 :: b :: E)[16]? = some b := rfl
theorem we_V17 (b0 b1 b2 b3 b4 b5 b6 b7 b8 b9 b10 b11 b12 b13 b14 b15 b16 : B) (d : PyData) (E : Env') (Q : PyData → Env' → Prop) : we (fV 17) (b0 :: b1 :: b2 :: b3 :: b4 :: b5 :: b6 :: b7 :: b8 :: b9 :: b10 :: b11 :: b12 :: b13 :: b14 :: b15 :: b16 :: B.v d :: E) Q = Q d (b0 :: b1 :: b2 :: b3 :: b4 :: b5 :: b6 :: b7 :: b8 :: b9 :: b10 :: b11 :: b12 :: b13 :: b14 :: b15 :: b16 :: B.v d :: E) := by rw [we_V]; exact wo_some _ _
theorem getO_17 (b0 b1 b2 b3 b4 b5 b6 b7 b8 b9 b10 b11 b12 b13 b14 b15 b16 : B) (m : M) (E : Env') : getO 17 (b0 :: b1 :: b2 :: b3 :: b4 :: b5 :: b6 :: b7 :: b8 :: b9 :: b10 :: b11 :: b12 :: b13 :: b14 :: b15 :: b16 :: B.o m :: E) = some (unM m) := by cases m; rfl
theorem set_17 {α : Type} (b0 b1 b2 b3 b4 b5 b6 b7 b8 b9 b10 b11 b12 b13 b14 b15 b16 : α) (b x : α) (E : List α) : (b0 :: b1 :: b2 :: b3 :: b4 :: b5 :: b6 :: b7 :: b8 :: b9 :: b10 :: b11 :: b12 :: b13 :: b14 :: b15 :: b16 :: b :: E).set 17 x = b0 :: b1 :: b2 :: b3 :: b4 :: b5 :: b6 :: b7 :: b8 :: b9 :: b10 :: b11 :: b12 :: b13 :: b14 :: b15 :: b16 :: x :: E := rfl
theorem at_17 {α : Type} (b0 b1 b2 b3 b4 b5 b6 b7 b8 b9 b10 b11 b12 b13 b14 b15 b16 : α) (b : α) (E : List α) : (b0 :: b1 :: b2 :: b3 :: b4 :: b5 :: b6 :: b7 :: b8 :: b9 :: b10 :: b11 :: b12 :: b13 :: b14 :: b15 :: b16 :: b :: E)[17]? = some b := rfl
theorem we_V18 (b0 b1 b2 b3 b4 b5 b6 b7 b8 b9 b10 b11 b12 b13 b14 b15 b16 b17 : B) (d : PyData) (E : Env') (Q : PyData → Env' → Prop) : we (fV 18) (b0 :: b1 :: b2 :: b3 :: b4 :: b5 :: b6 :: b7 :: b8 :: b9 :: b10 :: b11 :: b12 :: b13 :: b14 :: b15 :: b16 :: b17 :: B.v d :: E) Q = Q d (b0 :: b1 :: b2 :: b3 :: b4 :: b5 :: b6 :: b7 :: b8 :: b9 :: b10 :: b11 :: b12 :: b13 :: b14 :: b15 :: b16 :: b17 :: B.v d :: E) := by rw [we_V]; exact wo_some _ _
theorem getO_18 (b0 b1 b2 b3 b4 b5 b6 b7 b8 b9 b10 b11 b12 b13 b14 b15 b16 b17 : B) (m : M) (E : Env') : getO 18 (b0 :: b1 :: b2 :: b3 :: b4 :: b5 :: b6 :: b7 :: b8 :: b9 :: b10 :: b11 :: b12 :: b13 :: b14 :: b15 :: b16 :: b17 :: B.o m :: E) = some (unM m) := by cases m; rfl
theorem set_18 {α : Type} (b0 b1 b2 b3 b4 b5 b6 b7 b8 b9 b10 b11 b12 b13 b14 b15 b16 b17 : α) (b x : α) (E : List α) : (b0 :: b1 :: b2 :: b3 :: b4 :: b5 :: b6 :: b7 :: b8 :: b9 :: b10 :: b11 :: b12 :: b13 :: b14 :: b15 :: b16 :: b17 :: b :: E).set 18 x = b0 :: b1 :: b2 :: b3 :: b4 :: b5 :: b6 :: b7 :: b8 :: b9 :: b10 :: b11 :: b12 :: b13 :: b14 :: b15 :: b16 :: b17 :: x :: E := rfl
theorem at_18 {α : Type} (b0 b1 b2 b3 b4 b5 b6 b7 b8 b9 b10 b11 b12 b13 b14 b15 b16 b17 : α) (b : α) (E : List α) : (b0 :: b1 :: b2 :: b3 :: b4 :: b5 :: b6 :: b7 :: b8 :: b9 :: b10 :: b11 :: b12 :: b13 :: b14 :: b15 :: b16 :: b17 :: b :: E)[18]? = some b := rfl
theorem we_V19 (b0 b1 b2 b3 b4 b5 b6 b7 b8 b9 b10 b11 b12 b13 b14 b15 b16 b17 b18 : B) (d : PyData) (E : Env') (Q : PyData → Env' → Prop) : we (fV 19) (b0 :: b1 :: b2 :: b3 :: b4 :: b5 :: b6 :: b7 :: b8 :: b9 :: b10 :: b11 :: b12 :: b13 :: b14 :: b15 :: b16 :: b17 :: b18 :: B.v d :: E) Q = Q d (b0 :: b1 :: b2 :: b3 :: b4 :: b5 :: b6 :: b7 :: b8 :: b9 :: b10 :: b11 :: b12 :: b13 :: b14 :: b15 :: b16 :: b17 :: b18 :: B.v d :: E) := by rw [we_V]; exact wo_some _ _
theorem getO_19 (b0 b1 b2 b3 b4 b5 b6 b7 b8 b9 b10 b11 b12 b13 b14 b15 b16 b17 b18 : B) (m : M) (E : Env') : getO 19 (b0 :: b1 :: b2 :: b3 :: b4 :: b5 :: b6 :: b7 :: b8 :: b9 :: b10 :: b11 :: b12 :: b13 :: b14 :: b15 :: b16 :: b17 :: b18 :: B.o m :: E) = some (unM m) := by cases m; rfl
theorem set_19 {α : Type} (b0 b1 b2 b3 b4 b5 b6 b7 b8 b9 b10 b11 b12 b13 b14 b15 b16 b17 b18 : α) (b x : α) (E : List α) : (b0 :: b1 :: b2 :: b3 :: b4 :: b5 :: b6 :: b7 :: b8 :: b9 :: b10 :: b11 :: b12 :: b13 :: b14 :: b15 :: b16 :: b17 :: b18 :: b :: E).set 19 x = b0 :: b1 :: b2 :: b3 :: b4 :: b5 :: b6 :: b7 :: b8 :: b9 :: b10 :: b11 :: b12 :: b13 :: b14 :: b15 :: b16 :: b17 :: b18 :: x :: E := rfl
theorem at_19 {α : Type} (b0 b1 b2 b3 b4 b5 b6 b7 b8 b9 b10 b11 b12 b13 b14 b15 b16 b17 b18 : α) (b : α) (E : List α) : (b0 :: b1 :: b2 :: b3 :: b4 :: b5 :: b6 :: b7 :: b8 :: b9 :: b10 :: b11 :: b12 :: b13 :: b14 :: b15 :: b16 :: b17 :: b18 :: b :: E)[19]? = some b := rfl
theorem we_V20 (b0 b1 b2 b3 b4 b5 b6 b7 b8 b9 b10 b11 b12 b13 b14 b15 b16 b17 b18 b19 : B) (d : PyData) (E : Env') (Q : PyData → Env' → Prop) : we (fV 20) (b0 :: b1 :: b2 :: b3 :: b4 :: b5 :: b6 :: b7 :: b8 :: b9 :: b10 :: b11 :: b12 :: b13 :: b14 :: b15 :: b16 :: b17 :: b18 :: b19 :: B.v d :: E) Q = Q d (b0 :: b1 :: b2 :: b3 :: b4 :: b5 :: b6 :: b7 :: b8 :: b9 :: b10 :: b11 :: b12 :: b13 :: b14 :: b15 :: b16 :: b17 :: b18 :: b19 :: B.v d :: E) := by rw [we_V]; exact wo_some _ _
theorem getO_20 (b0 b1 b2 b3 b4 b5 b6 b7 b8 b9 b10 b11 b12 b13 b14 b15 b16 b17 b18 b19 : B) (m : M) (E : Env') : getO 20 (b0 :: b1 :: b2 :: b3 :: b4 :: b5 :: b6 :: b7 :: b8 :: b9 :: b10 :: b11 :: b12 :: b13 :: b14 :: b15 :: b16 :: b17 :: b18 :: b19 :: B.o m :: E) = some (unM m) := by cases m; rfl
theorem set_20 {α : Type} (b0 b1 b2 b3 b4 b5 b6 b7 b8 b9 b10 b11 b12 b13 b14 b15 b16 b17 b18 b19 : α) (b x : α) (E : List α) : (b0 :: b1 :: b2 :: b3 :: b4 :: b5 :: b6 :: b7 :: b8 :: b9 :: b10 :: b11 :: b12 :: b13 :: b14 :: b15 :: b16 :: b17 :: b18 :: b19 :: b :: E).set 20 x = b0 :: b1 :: b2 :: b3 :: b4 :: b5 :: b6 :: b7 :: b8 :: b9 :: b10 :: b11 :: b12 :: b13 :: b14 :: b15 :: b16 :: b17 :: b18 :: b19 :: x :: E := rfl
theorem at_20 {α : Type} (b0 b1 b2 b3 b4 b5 b6 b7 b8 b9 b10 b11 b12 b13 b14 b15 b16 b17 b18 b19 : α) (b : α) (E : List α) : (b0 :: b1 :: b2 :: b3 :: b4 :: b5 :: b6 :: b7 :: b8 :: b9 :: b10 :: b11 :: b12 :: b13 :: b14 :: b15 :: b16 :: b17 :: b18 :: b19 :: b :: E)[20]? = some b := rfl
theorem we_V21 (b0 b1 b2 b3 b4 b5 b6 b7 b8 b9 b10 b11 b12 b13 b14 b15 b16 b17 b18 b19 b20 : B) (d : PyData) (E : Env') (Q : PyData → Env' → Prop) : we (fV 21) (b0 :: b1 :: b2 :: b3 :: b4 :: b5 :: b6 :: b7 :: b8 :: b9 :: b10 :: b11 :: b12 :: b13 :: b14 :: b15 :: b16 :: b17 :: b18 :: b19 :: b20 :: B.v d :: E) Q = Q d (b0 :: b1 :: b2 :: b3 :: b4 :: b5 :: b6 :: b7 :: b8 :: b9 :: b10 :: b11 :: b12 :: b13 :: b14 :: b15 :: b16 :: b17 :: b18 :: b19 :: b20 :: B.v d :: E) := by rw [we_V]; exact wo_some _ _
theorem getO_21 (b0 b1 b2 b3 b4 b5 b6 b7 b8 b9 b10 b11 b12 b13 b14 b15 b16 b17 b18 b19 b20 : B) (m : M) (E : Env') : getO 21 (b0 :: b1 :: b2 :: b3 :: b4 :: b5 :: b6 :: b7 :: b8 :: b9 :: b10 :: b11 :: b12 :: b13 :: b14 :: b15 :: b16 :: b17 :: b18 :: b19 :: b20 :: B.o m :: E) = some (unM m) := by cases m; rfl
theorem set_21 {α : Type} (b0 b1 b2 b3 b4 b5 b6 b7 b8 b9 b10 b11 b12 b13 b14 b15 b16 b17 b18 b19 b20 : α) (b x : α) (E : List α) : (b0 :: b1 :: b2 :: b3 :: b4 :: b5 :: b6 :: b7 :: b8 :: b9 :: b10 :: b11 :: b12 :: b13 :: b14 :: b15 :: b16 :: b17 :: b18 :: b19 :: b20 :: b :: E).set 21 x = b0 :: b1 :: b2 :: b3 :: b4 :: b5 :: b6 :: b7 :: b8 :: b9 :: b10 :: b11 :: b12 :: b13 :: b14 :: b15 :: b16 :: b17 :: b18 :: b19 :: b20 :: x :: E := rfl
theorem at_21 {α : Type} (b0 b1 b2 b3 b4 b5 b6 b7 b8 b9 b10 b11 b12 b13 b14 b15 b16 b17 b18 b19 b20 : α) (b : α) (E : List α) : (b0 :: b1 :: b2 :: b3 :: b4 :: b5 :: b6 :: b7 :: b8 :: b9 :: b10 :: b11 :: b12 :: b13 :: b14 :: b15 :: b16 :: b17 :: b18 :: b19 :: b20 :: b :: E)[21]? = some b := rfl
theorem we_V22 (b0 b1 b2 b3 b4 b5 b6 b7 b8 b9 b10 b11 b12 b13 b14 b15 b16 b17 b18 b19 b20 b21 : B) (d : PyData) (E : Env') (Q : PyData → Env' → Prop) : we (fV 22) (b0 :: b1 :: b2 :: b3 :: b4 :: b5 :: b6 :: b7 :: b8 :: b9 :: b10 :: b11 :: b12 :: b13 :: b14 :: b15 :: b16 :: b17 :: b18 :: b19 :: b20 :: b21 :: B.v d :: E) Q = Q d (b0 :: b1 :: b2 :: b3 :: b4 :: b5 :: b6 :: b7 :: b8 :: b9 :: b10 :: b11 :: b12 :: b13 :: b14 :: b15 :: b16 :: b17 :: b18 :: b19 :: b20 :: b21 :: B.v d :: E) := by rw [we_V]; exact wo_some _ _
theorem getO_22 (b0 b1 b2 b3 b4 b5 b6 b7 b8 b9 b10 b11 b12 b13 b14 b15 b16 b17 b18 b19 b20 b21 : B) (m : M) (E : Env') : getO 22 (b0 :: b1 :: b2 :: b3 :: b4 :: b5 :: b6 :: b7 :: b8 :: b9 :: b10 :: b11 :: b12 :: b13 :: b14 :: b15 :: b16 :: b17 :: b18 :: b19 :: b20 :: b21 :: B.o m :: E) = some (unM m) := by cases m; rfl
theorem set_22 {α : Type} (b0 b1 b2 b3 b4 b5 b6 b7 b8 b9 b10 b11 b12 b13 b14 b15 b16 b17 b18 b19 b20 b21 : α) (b x : α) (E : List α) : (b0 :: b1 :: b2 :: b3 :: b4 :: b5 :: b6 :: b7 :: b8 :: b9 :: b10 :: b11 :: b12 :: b13 :: b14 :: b15 :: b16 :: b17 :: b18 :: b19 :: b20 :: b21 :: b :: E).set 22 x = b0 :: b1 :: b2 :: b3 :: b4 :: b5 :: b6 :: b7 :: b8 :: b9 :: b10 :: b11 :: b12 :: b13 :: b14 :: b15 :: b16 :: b17 :: b18 :: b19 :: b20 :: b21 :: x :: E := rfl
theorem at_22 {α : Type} (b0 b1 b2 b3 b4 b5 b6 b7 b8 b9 b10 b11 b12 b13 b14 b15 b16 b17 b18 b19 b20 b21 : α) (b : α) (E : List α) : (b0 :: b1 :: b2 :: b3 :: b4 :: b5 :: b6 :: b7 :: b8 :: b9 :: b10 :: b11 :: b12 :: b13 :: b14 :: b15 :: b16 :: b17 :: b18 :: b19 :: b20 :: b21 :: b :: E)[22]? = some b := rfl
theorem we_V23 (b0 b1 b2 b3 b4 b5 b6 b7 b8 b9 b10 b11 b12 b13 b14 b15 b16 b17 b18 b19 b20 b21 b22 : B) (d : PyData) (E : Env') (Q : PyData → Env' → Prop) : we (fV 23) (b0 :: b1 :: b2 :: b3 :: b4 :: b5 :: b6 :: b7 :: b8 :: b9 :: b10 :: b11 :: b12 :: b13 :: b14 :: b15 :: b16 :: b17 :: b18 :: b19 :: b20 :: b21 :: b22 :: B.v d :: E) Q = Q d (b0 :: b1 :: b2 :: b3 :: b4 :: b5 :: b6 :: b7 :: b8 :: b9 :: b10 :: b11 :: b12 :: b13 :: b14 :: b15 :: b16 :: b17 :: b18 :: b19 :: b20 :: b21 :: b22 :: B.v d :: E) := by rw [we_V]; exact wo_some _ _
theorem getO_23 (b0 b1 b2 b3 b4 b5 b6 b7 b8 b9 b10 b11 b12 b13 b14 b15 b16 b17 b18 b19 b20 b21 b22 : B) (m : M) (E : Env') : getO 23 (b0 :: b1 :: b2 :: b3 :: b4 :: b5 :: b6 :: b7 :: b8 :: b9 :: b10 :: b11 :: b12 :: b13 :: b14 :: b15 :: b16 :: b17 :: b18 :: b19 :: b20 :: b21 :: b22 :: B.o m :: E) = some (unM m) := by cases m; rfl
theorem set_23 {α : Type} (b0 b1 b2 b3 b4 b5 b6 b7 b8 b9 b10 b11 b12 b13 b14 b15 b16 b17 b18 b19 b20 b21 b22 : α) (b x : α) (E : List α) : (b0 :: b1 :: b2 :: b3 :: b4 :: b5 :: b6 :: b7 :: b8 :: b9 :: b10 :: b11 :: b12 :: b13 :: b14 :: b15 :: b16 :: b17 :: b18 :: b19 :: b20 :: b21 :: b22 :: b :: E).set 23 x = b0 :: b1 :: b2 :: b3 :: b4 :: b5 :: b6 :: b7 :: b8 :: b9 :: b10 :: b11 :: b12 :: b13 :: b14 :: b15 :: b16 :: b17 :: b18 :: b19 :: b20 :: b21 :: b22 :: x :: E := rfl
theorem at_23 {α : Type} (b0 b1 b2 b3 b4 b5 b6 b7 b8 b9 b10 b11 b12 b13 b14 b15 b16 b17 b18 b19 b20 b21 b22 : α) (b : α) (E : List α) : (b0 :: b1 :: b2 :: b3 :: b4 :: b5 :: b6 :: b7 :: b8 :: b9 :: b10 :: b11 :: b12 :: b13 :: b14 :: b15 :: b16 :: b17 :: b18 :: b19 :: b20 :: b21 :: b22 :: b :: E)[23]? = some b := rfl
theorem we_V24 (b0 b1 b2 b3 b4 b5 b6 b7 b8 b9 b10 b11 b12 b13 b14 b15 b16 b17 b18 b19 b20 b21 b22 b23 : B) (d : PyData) (E : Env') (Q : PyData → Env' → Prop) : we (fV 24) (b0 :: b1 :: b2 :: b3 :: b4 :: b5 :: b6 :: b7 :: b8 :: b9 :: b10 :: b11 :: b12 :: b13 :: b14 :: b15 :: b16 :: b17 :: b18 :: b19 :: b20 :: b21 :: b22 :: b23 :: B.v d :: E) Q = Q d (b0 :: b1 :: b2 :: b3 :: b4 :: b5 :: b6 :: b7 :: b8 :: b9 :: b10 :: b11 :: b12 :: b13 :: b14 :: b15 :: b16 :: b17 :: b18 :: b19 :: b20 :: b21 :: b22 :: b23 :: B.v d :: E) := by rw [we_V]; exact wo_some _ _
theorem getO_24 (b0 b1 b2 b3 b4 b5 b6 b7 b8 b9 b10 b11 b12 b13 b14 b15 b16 b17 b18 b19 b20 b21 b22 b23 : B) (m : M) (E : Env') : getO 24 (b0 :: b1 :: b2 :: b3 :: b4 :: b5 :: b6 :: b7 :: b8 :: b9 :: b10 :: b11 :: b12 :: b13 :: b14 :: b15 :: b16 :: b17 :: b18 :: b19 :: b20 :: b21 :: b22 :: b23 :: B.o m :: E) = some (unM m) := by cases m; rfl
theorem set_24 {α : Type} (b0 b1 b2 b3 b4 b5 b6 b7 b8 b9 b10 b11 b12 b13 b14 b15 b16 b17 b18 b19 b20 b21 b22 b23 : α) (b x : α) (E : List α) : (b0 :: b1 :: b2 :: b3 :: b4 :: b5 :: b6 :: b7 :: b8 :: b9 :: b10 :: b11 :: b12 :: b13 :: b14 :: b15 :: b16 :: b17 :: b18 :: b19 :: b20 :: b21 :: b22 :: b23 :: b :: E).set 24 x = b0 :: b1 :: b2 :: b3 :: b4 :: b5 :: b6 :: b7 :: b8 :: b9 :: b10 :: b11 :: b12 :: b13 :: b14 :: b15 :: b16 :: b17 :: b18 :: b19 :: b20 :: b21 :: b22 :: b23 :: x :: E := rfl
theorem at_24 {α : Type} (b0 b1 b2 b3 b4 b5 b6 b7 b8 b9 b10 b11 b12 b13 b14 b15 b16 b17 b18 b19 b20 b21 b22 b23 : α) (b : α) (E : List α) : (b0 :: b1 :: b2 :: b3 :: b4 :: b5 :: b6 :: b7 :: b8 :: b9 :: b10 :: b11 :: b12 :: b13 :: b14 :: b15 :: b16 :: b17 :: b18 :: b19 :: b20 :: b21 :: b22 :: b23 :: b :: E)[24]? = some b := rfl
theorem we_V25 (b0 b1 b2 b3 b4 b5 b6 b7 b8 b9 b10 b11 b12 b13 b14 b15 b16 b17 b18 b19 b20 b21 b22 b23 b24 : B) (d : PyData) (E : Env') (Q : PyData → Env' → Prop) : we (fV 25) (b0 :: b1 :: b2 :: b3 :: b4 :: b5 :: b6 :: b7 :: b8 :: b9 :: b10 :: b11 :: b12 :: b13 :: b14 :: b15 :: b16 :: b17 :: b18 :: b19 :: b20 :: b21 :: b22 :: b23 :: b24 :: B.v d :: E) Q = Q d (b0 :: b1 :: b2 :: b3 :: b4 :: b5 :: b6 :: b7 :: b8 :: b9 :: b10 :: b11 :: b12 :: b13 :: b14 :: b15 :: b16 :: b17 :: b18 :: b19 :: b20 :: b21 :: b22 :: b23 :: b24 :: B.v d :: E) := by rw [we_V]; exact wo_some _ _
theorem getO_25 (b0 b1 b2 b3 b4 b5 b6 b7 b8 b9 b10 b11 b12 b13 b14 b15 b16 b17 b18 b19 b20 b21 b22 b23 b24 : B) (m : M) (E : Env') : getO 25 (b0 :: b1 :: b2 :: b3 :: b4 :: b5 :: b6 :: b7 :: b8 :: b9 :: b10 :: b11 :: b12 :: b13 :: b14 :: b15 :: b16 :: b17 :: b18 :: b19 :: b20 :: b21 :: b22 :: b23 :: b24 :: B.o m :: E) = some (unM m) := by cases m; rfl
theorem set_25 {α : Type} (b0 b1 b2 b3 b4 b5 b6 b7 b8 b9 b10 b11 b12 b13 b14 b15 b16 b17 b18 b19 b20 b21 b22 b23 b24 : α) (b x : α) (E : List α) : (b0 :: b1 :: b2 :: b3 :: b4 :: b5 :: b6 :: b7 :: b8 :: b9 :: b10 :: b11 :: b12 :: b13 :: b14 :: b15 :: b16 :: b17 :: b18 :: b19 :: b20 :: b21 :: b22 :: b23 :: b24 :: b :: E).set 25 x = b0 :: b1 :: b2 :: b3 :: b4 :: b5 :: b6 :: b7 :: b8 :: b9 :: b10 :: b11 :: b12 :: b13 :: b14 :: b15 :: b16 :: b17 :: b18 :: b19 :: b20 :: b21 :: b22 :: b23 :: b24 :: x :: E := rfl
theorem at_25 {α : Type} (b0 b1 b2 b3 b4 b5 b6 b7 b8 b9 b10 b11 b12 b13 b14 b15 b16 b17 b18 b19 b20 b21 b22 b23 b24 : α) (b : α) (E : List α) : (b0 :: b1 :: b2 :: b3 :: b4 :: b5 :: b6 :: b7 :: b8 :: b9 :: b10 :: b11 :: b12 :: b13 :: b14 :: b15 :: b16 :: b17 :: b18 :: b19 :: b20 :: b21 :: b22 :: b23 :: b24 :: b :: E)[25]? = some b := rfl
theorem take_1 {α : Type} (b0 : α) (E : List α) : (b0 :: E).take 1 = [b0] := by simp
theorem take_2 {α : Type} (b0 b1 : α) (E : List α) : (b0 :: b1 :: E).take 2 = [b0, b1] := by simp
theorem take_3 {α : Type} (b0 b1 b2 : α) (E : List α) : (b0 :: b1 :: b2 :: E).take 3 = [b0, b1, b2] := by simp
theorem take_4 {α : Type} (b0 b1 b2 b3 : α) (E : List α) : (b0 :: b1 :: b2 :: b3 :: E).take 4 = [b0, b1, b2, b3] := by simp
theorem take_5 {α : Type} (b0 b1 b2 b3 b4 : α) (E : List α) : (b0 :: b1 :: b2 :: b3 :: b4 :: E).take 5 = [b0, b1, b2, b3, b4] := by simp
theorem take_6 {α : Type} (b0 b1 b2 b3 b4 b5 : α) (E : List α) : (b0 :: b1 :: b2 :: b3 :: b4 :: b5 :: E).take 6 = [b0, b1, b2, b3, b4, b5] := by simp
theorem take_7 {α : Type} (b0 b1 b2 b3 b4 b5 b6 : α) (E : List α) : (b0 :: b1 :: b2 :: b3 :: b4 :: b5 :: b6 :: E).take 7 = [b0, b1, b2, b3, b4, b5, b6] := by simp
theorem take_8 {α : Type} (b0 b1 b2 b3 b4 b5 b6 b7 : α) (E : List α) : (b0 :: b1 :: b2 :: b3 :: b4 :: b5 :: b6 :: b7 :: E).take 8 = [b0, b1, b2, b3, b4, b5, b6, b7] := by simp
theorem take_9 {α : Type} (b0 b1 b2 b3 b4 b5 b6 b7 b8 : α) (E : List α) : (b0 :: b1 :: b2 :: b3 :: b4 :: b5 :: b6 :: b7 :: b8 :: E).take 9 = [b0, b1, b2, b3, b4, b5, b6, b7, b8] := by simp
theorem take_10 {α : Type} (b0 b1 b2 b3 b4 b5 b6 b7 b8 b9 : α) (E : List α) : (b0 :: b1 :: b2 :: b3 :: b4 :: b5 :: b6 :: b7 :: b8 :: b9 :: E).take 10 = [b0, b1, b2, b3, b4, b5, b6, b7, b8, b9] := by simp
theorem take_11 {α : Type} (b0 b1 b2 b3 b4 b5 b6 b7 b8 b9 b10 : α) (E : List α) : (b0 :: b1 :: b2 :: b3 :: b4 :: b5 :: b6 :: b7 :: b8 :: b9 :: b10 :: E).take 11 = [b0, b1, b2, b3, b4, b5, b6, b7, b8, b9, b10] := by simp
theorem take_12 {α : Type} (b0 b1 b2 b3 b4 b5 b6 b7 b8 b9 b10 b11 : α) (E : List α) : (b0 :: b1 :: b2 :: b3 :: b4 :: b5 :: b6 :: b7 :: b8 :: b9 :: b10 :: b11 :: E).take 12 = [b0, b1, b2, b3, b4, b5, b6, b7, b8, b9, b10, b11] := by simp
theorem take_13 {α : Type} (b0 b1 b2 b3 b4 b5 b6 b7 b8 b9 b10 b11 b12 : α) (E : List α) : (b0 :: b1 :: b2 :: b3 :: b4 :: b5 :: b6 :: b7 :: b8 :: b9 :: b10 :: b11 :: b12 :: E).take 13 = [b0, b1, b2, b3, b4, b5, b6, b7, b8, b9, b10, b11, b12] := by simp
theorem take_14 {α : Type} (b0 b1 b2 b3 b4 b5 b6 b7 b8 b9 b10 b11 b12 b13 : α) (E : List α) : (b0 :: b1 :: b2 :: b3 :: b4 :: b5 :: b6 :: b7 :: b8 :: b9 :: b10 :: b11 :: b12 :: b13 :: E).take 14 = [b0, b1, b2, b3, b4, b5, b6, b7, b8, b9, b10, b11, b12, b13] := by simp
theorem take_15 {α : Type} (b0 b1 b2 b3 b4 b5 b6 b7 b8 b9 b10 b11 b12 b13 b14 : α) (E : List α) : (b0 :: b1 :: b2 :: b3 :: b4 :: b5 :: b6 :: b7 :: b8 :: b9 :: b10 :: b11 :: b12 :: b13 :: b14 :: E).take 15 = [b0, b1, b2, b3, b4, b5, b6, b7, b8, b9, b10, b11, b12, b13, b14] := by simp
theorem take_16 {α : Type} (b0 b1 b2 b3 b4 b5 b6 b7 b8 b9 b10 b11 b12 b13 b14 b15 : α) (E : List α) : (b0 :: b1 :: b2 :: b3 :: b4 :: b5 :: b6 :: b7 :: b8 :: b9 :: b10 :: b11 :: b12 :: b13 :: b14 :: b15 :: E).take 16 = [b0, b1, b2, b3, b4, b5, b6, b7, b8, b9, b10, b11, b12, b13, b14, b15] := by simp
theorem take_17 {α : Type} (b0 b1 b2 b3 b4 b5 b6 b7 b8 b9 b10 b11 b12 b13 b14 b15 b16 : α) (E : List α) : (b0 :: b1 :: b2 :: b3 :: b4 :: b5 :: b6 :: b7 :: b8 :: b9 :: b10 :: b11 :: b12 :: b13 :: b14 :: b15 :: b16 :: E).take 17 = [b0, b1, b2, b3, b4, b5, b6, b7, b8, b9, b10, b11, b12, b13, b14, b15, b16] := by simp
theorem take_18 {α : Type} (b0 b1 b2 b3 b4 b5 b6 b7 b8 b9 b10 b11 b12 b13 b14 b15 b16 b17 : α) (E : List α) : (b0 :: b1 :: b2 :: b3 :: b4 :: b5 :: b6 :: b7 :: b8 :: b9 :: b10 :: b11 :: b12 :: b13 :: b14 :: b15 :: b16 :: b17 :: E).take 18 = [b0, b1, b2, b3, b4, b5, b6, b7, b8, b9, b10, b11, b12, b13, b14, b15, b16, b17] := by simp
theorem take_19 {α : Type} (b0 b1 b2 b3 b4 b5 b6 b7 b8 b9 b10 b11 b12 b13 b14 b15 b16 b17 b18 : α) (E : List α) : (b0 :: b1 :: b2 :: b3 :: b4 :: b5 :: b6 :: b7 :: b8 :: b9 :: b10 :: b11 :: b12 :: b13 :: b14 :: b15 :: b16 :: b17 :: b18 :: E).take 19 = [b0, b1, b2, b3, b4, b5, b6, b7, b8, b9, b10, b11, b12, b13, b14, b15, b16, b17, b18] := by simp
theorem take_20 {α : Type} (b0 b1 b2 b3 b4 b5 b6 b7 b8 b9 b10 b11 b12 b13 b14 b15 b16 b17 b18 b19 : α) (E : List α) : (b0 :: b1 :: b2 :: b3 :: b4 :: b5 :: b6 :: b7 :: b8 :: b9 :: b10 :: b11 :: b12 :: b13 :: b14 :: b15 :: b16 :: b17 :: b18 :: b19 :: E).take 20 = [b0, b1, b2, b3, b4, b5, b6, b7, b8, b9, b10, b11, b12, b13, b14, b15, b16, b17, b18, b19] := by simp
theorem take_21 {α : Type} (b0 b1 b2 b3 b4 b5 b6 b7 b8 b9 b10 b11 b12 b13 b14 b15 b16 b17 b18 b19 b20 : α) (E : List α) : (b0 :: b1 :: b2 :: b3 :: b4 :: b5 :: b6 :: b7 :: b8 :: b9 :: b10 :: b11 :: b12 :: b13 :: b14 :: b15 :: b16 :: b17 :: b18 :: b19 :: b20 :: E).take 21 = [b0, b1, b2, b3, b4, b5, b6, b7, b8, b9, b10, b11, b12, b13, b14, b15, b16, b17, b18, b19, b20] := by simp
theorem take_22 {α : Type} (b0 b1 b2 b3 b4 b5 b6 b7 b8 b9 b10 b11 b12 b13 b14 b15 b16 b17 b18 b19 b20 b21 : α) (E : List α) : (b0 :: b1 :: b2 :: b3 :: b4 :: b5 :: b6 :: b7 :: b8 :: b9 :: b10 :: b11 :: b12 :: b13 :: b14 :: b15 :: b16 :: b17 :: b18 :: b19 :: b20 :: b21 :: E).take 22 = [b0, b1, b2, b3, b4, b5, b6, b7, b8, b9, b10, b11, b12, b13, b14, b15, b16, b17, b18, b19, b20, b21] := by simp
theorem take_23 {α : Type} (b0 b1 b2 b3 b4 b5 b6 b7 b8 b9 b10 b11 b12 b13 b14 b15 b16 b17 b18 b19 b20 b21 b22 : α) (E : List α) : (b0 :: b1 :: b2 :: b3 :: b4 :: b5 :: b6 :: b7 :: b8 :: b9 :: b10 :: b11 :: b12 :: b13 :: b14 :: b15 :: b16 :: b17 :: b18 :: b19 :: b20 :: b21 :: b22 :: E).take 23 = [b0, b1, b2, b3, b4, b5, b6, b7, b8, b9, b10, b11, b12, b13, b14, b15, b16, b17, b18, b19, b20, b21, b22] := by simp
theorem take_24 {α : Type} (b0 b1 b2 b3 b4 b5 b6 b7 b8 b9 b10 b11 b12 b13 b14 b15 b16 b17 b18 b19 b20 b21 b22 b23 : α) (E : List α) : (b0 :: b1 :: b2 :: b3 :: b4 :: b5 :: b6 :: b7 :: b8 :: b9 :: b10 :: b11 :: b12 :: b13 :: b14 :: b15 :: b16 :: b17 :: b18 :: b19 :: b20 :: b21 :: b22 :: b23 :: E).take 24 = [b0, b1, b2, b3, b4, b5, b6, b7, b8, b9, b10, b11, b12, b13, b14, b15, b16, b17, b18, b19, b20, b21, b22, b23] := by simp
theorem take_25 {α : Type} (b0 b1 b2 b3 b4 b5 b6 b7 b8 b9 b10 b11 b12 b13 b14 b15 b16 b17 b18 b19 b20 b21 b22 b23 b24 : α) (E : List α) : (b0 :: b1 :: b2 :: b3 :: b4 :: b5 :: b6 :: b7 :: b8 :: b9 :: b10 :: b11 :: b12 :: b13 :: b14 :: b15 :: b16 :: b17 :: b18 :: b19 :: b20 :: b21 :: b22 :: b23 :: b24 :: E).take 25 = [b0, b1, b2, b3, b4, b5, b6, b7, b8, b9, b10, b11, b12, b13, b14, b15, b16, b17, b18, b19, b20, b21, b22, b23, b24] := by simp
theorem k_add_ii (i j : Int) : oAdd (.int i) (.int j) = some (.int (i + j)) := by rfl
theorem k_add_ss (x y : Str) : oAdd (.str x) (.str y) = if x.length + y.length ≤ 16777216 then some (.str (x ++ y)) else none := by rfl
theorem k_add_tt (x y : List PyData) : oAdd (.tuple x) (.tuple y) = if x.length + y.length ≤ 16777216 then some (.tuple (x ++ y)) else none := by rfl
theorem k_add_ll (x y : List PyData) : oAdd (.list x) (.list y) = if x.length + y.length ≤ 16777216 then some (.list (x ++ y)) else none := by rfl
theorem k_sub_ii (i j : Int) : oSub (.int i) (.int j) = some (.int (i - j)) := by rfl
theorem k_mul_ii (i j : Int) : oMul (.int i) (.int j) = if i.natAbs.log2 + j.natAbs.log2 < 1000000 then some (.int (i * j)) else none := by rfl
theorem k_mul_li (xs : List PyData) (k : Int) : oMul (.list xs) (.int k) = if -(2 ^ 63) ≤ k ∧ k < 2 ^ 63 ∧ xs.length * k.toNat ≤ 16777216 then some (.list (List.replicate k.toNat xs).flatten) else none := by rfl
theorem k_div_ii (i j : Int) : oDiv (.int i) (.int j) = if 0 < j ∧ j.natAbs.log2 < 9000 then some (.int (i / j)) else none := by rfl
theorem k_mod_ii (i j : Int) : oMod (.int i) (.int j) = if 0 < j then some (.int (i % j)) else none := by rfl
theorem k_pow_ii (i j : Int) : oPow (.int i) (.int j) = if 0 ≤ j ∧ j ≤ 1000000 ∧ i.natAbs < 2 ^ 64 then some (.int (i ^ j.toNat)) else none := by rfl
theorem k_rel_ii (p : Int → Int → Bool) (i j : Int) : oRel p (.int i) (.int j) = some (.bool (p i j)) := by rfl
theorem k_eq_none_none : oEq .none .none = some (.bool (true)) := by rfl
theorem k_ne_none_none : oNe .none .none = some (.bool (!true)) := by rfl
theorem k_eq_none_bool (y : Bool) : oEq .none (.bool y) = some (.bool (false)) := by rfl
theorem k_ne_none_bool (y : Bool) : oNe .none (.bool y) = some (.bool (!false)) := by rfl
theorem k_eq_none_int (y : Int) : oEq .none (.int y) = some (.bool (false)) := by rfl
theorem k_ne_none_int (y : Int) : oNe .none (.int y) = some (.bool (!false)) := by rfl
theorem k_eq_none_str (y : Str) : oEq .none (.str y) = some (.bool (false)) := by rfl
theorem k_ne_none_str (y : Str) : oNe .none (.str y) = some (.bool (!false)) := by rfl
theorem k_eq_none_tuple (y : List PyData) : oEq .none (.tuple y) = some (.bool (false)) := by rfl
theorem k_ne_none_tuple (y : List PyData) : oNe .none (.tuple y) = some (.bool (!false)) := by rfl
theorem k_eq_bool_none (x : Bool) : oEq (.bool x) .none = some (.bool (false)) := by rfl
theorem k_ne_bool_none (x : Bool) : oNe (.bool x) .none = some (.bool (!false)) := by rfl
theorem k_eq_bool_bool (x : Bool) (y : Bool) : oEq (.bool x) (.bool y) = some (.bool (decide (x = y))) := by rfl
theorem k_ne_bool_bool (x : Bool) (y : Bool) : oNe (.bool x) (.bool y) = some (.bool (!decide (x = y))) := by rfl
theorem k_eq_bool_str (x : Bool) (y : Str) : oEq (.bool x) (.str y) = some (.bool (false)) := by rfl
theorem k_ne_bool_str (x : Bool) (y : Str) : oNe (.bool x) (.str y) = some (.bool (!false)) := by rfl
theorem k_eq_bool_tuple (x : Bool) (y : List PyData) : oEq (.bool x) (.tuple y) = some (.bool (false)) := by rfl
theorem k_ne_bool_tuple (x : Bool) (y : List PyData) : oNe (.bool x) (.tuple y) = some (.bool (!false)) := by rfl
theorem k_eq_int_none (x : Int) : oEq (.int x) .none = some (.bool (false)) := by rfl
theorem k_ne_int_none (x : Int) : oNe (.int x) .none = some (.bool (!false)) := by rfl
theorem k_eq_int_int (x : Int) (y : Int) : oEq (.int x) (.int y) = some (.bool (decide (x = y))) := by rfl
theorem k_ne_int_int (x : Int) (y : Int) : oNe (.int x) (.int y) = some (.bool (!decide (x = y))) := by rfl
theorem k_eq_int_str (x : Int) (y : Str) : oEq (.int x) (.str y) = some (.bool (false)) := by rfl
theorem k_ne_int_str (x : Int) (y : Str) : oNe (.int x) (.str y) = some (.bool (!false)) := by rfl
theorem k_eq_int_tuple (x : Int) (y : List PyData) : oEq (.int x) (.tuple y) = some (.bool (false)) := by rfl
theorem k_ne_int_tuple (x : Int) (y : List PyData) : oNe (.int x) (.tuple y) = some (.bool (!false)) := by rfl
theorem k_eq_str_none (x : Str) : oEq (.str x) .none = some (.bool (false)) := by rfl
theorem k_ne_str_none (x : Str) : oNe (.str x) .none = some (.bool (!false)) := by rfl
theorem k_eq_str_bool (x : Str) (y : Bool) : oEq (.str x) (.bool y) = some (.bool (false)) := by rfl
theorem k_ne_str_bool (x : Str) (y : Bool) : oNe (.str x) (.bool y) = some (.bool (!false)) := by rfl
theorem k_eq_str_int (x : Str) (y : Int) : oEq (.str x) (.int y) = some (.bool (false)) := by rfl
theorem k_ne_str_int (x : Str) (y : Int) : oNe (.str x) (.int y) = some (.bool (!false)) := by rfl
theorem k_eq_str_str (x : Str) (y : Str) : oEq (.str x) (.str y) = some (.bool (decide (x = y))) := by rfl
theorem k_ne_str_str (x : Str) (y : Str) : oNe (.str x) (.str y) = some (.bool (!decide (x = y))) := by rfl
theorem k_eq_str_tuple (x : Str) (y : List PyData) : oEq (.str x) (.tuple y) = some (.bool (false)) := by rfl
theorem k_ne_str_tuple (x : Str) (y : List PyData) : oNe (.str x) (.tuple y) = some (.bool (!false)) := by rfl
theorem k_eq_tuple_none (x : List PyData) : oEq (.tuple x) .none = some (.bool (false)) := by rfl
theorem k_ne_tuple_none (x : List PyData) : oNe (.tuple x) .none = some (.bool (!false)) := by rfl
theorem k_eq_tuple_bool (x : List PyData) (y : Bool) : oEq (.tuple x) (.bool y) = some (.bool (false)) := by rfl
theorem k_ne_tuple_bool (x : List PyData) (y : Bool) : oNe (.tuple x) (.bool y) = some (.bool (!false)) := by rfl
theorem k_eq_tuple_int (x : List PyData) (y : Int) : oEq (.tuple x) (.int y) = some (.bool (false)) := by rfl
theorem k_ne_tuple_int (x : List PyData) (y : Int) : oNe (.tuple x) (.int y) = some (.bool (!false)) := by rfl
theorem k_eq_tuple_str (x : List PyData) (y : Str) : oEq (.tuple x) (.str y) = some (.bool (false)) := by rfl
theorem k_ne_tuple_str (x : List PyData) (y : Str) : oNe (.tuple x) (.str y) = some (.bool (!false)) := by rfl
theorem k_eq_nil_l (ys : List PyData) : oEq (.tuple []) (.tuple ys) = some (.bool ys.isEmpty) := by cases ys <;> rfl
theorem k_eq_nil_r (ys : List PyData) : oEq (.tuple ys) (.tuple []) = some (.bool ys.isEmpty) := by cases ys <;> rfl
theorem k_ne_nil_l (ys : List PyData) : oNe (.tuple []) (.tuple ys) = some (.bool (!ys.isEmpty)) := by cases ys <;> rfl
theorem k_ne_nil_r (ys : List PyData) : oNe (.tuple ys) (.tuple []) = some (.bool (!ys.isEmpty)) := by cases ys <;> rfl
theorem k_eqL_nil_r (ys : List PyData) : oEqL (.list ys) (.list []) = some (.bool ys.isEmpty) := by cases ys <;> rfl
theorem k_eqL_nil_l (ys : List PyData) : oEqL (.list []) (.list ys) = some (.bool ys.isEmpty) := by cases ys <;> rfl
theorem k_isTup_none : isTup .none = false := by rfl
theorem k_isTup_bool (x : Bool) : isTup (.bool x) = false := by rfl
theorem k_isTup_int (x : Int) : isTup (.int x) = false := by rfl
theorem k_isTup_str (x : Str) : isTup (.str x) = false := by rfl
theorem k_isTup_tuple (x : List PyData) : isTup (.tuple x) = true := by rfl
theorem k_isTup_list (x : List PyData) : isTup (.list x) = false := by rfl
theorem k_isTup_dict (x : List (PyData × PyData)) : isTup (.dict x) = false := by rfl
theorem k_isStr_none : isStr .none = false := by rfl
theorem k_isStr_bool (x : Bool) : isStr (.bool x) = false := by rfl
theorem k_isStr_int (x : Int) : isStr (.int x) = false := by rfl
theorem k_isStr_str (x : Str) : isStr (.str x) = true := by rfl
theorem k_isStr_tuple (x : List PyData) : isStr (.tuple x) = false := by rfl
theorem k_isStr_list (x : List PyData) : isStr (.list x) = false := by rfl
theorem k_isStr_dict (x : List (PyData × PyData)) : isStr (.dict x) = false := by rfl
theorem k_isBool_none : isBool .none = false := by rfl
theorem k_isBool_bool (x : Bool) : isBool (.bool x) = true := by rfl
theorem k_isBool_int (x : Int) : isBool (.int x) = false := by rfl
theorem k_isBool_str (x : Str) : isBool (.str x) = false := by rfl
theorem k_isBool_tuple (x : List PyData) : isBool (.tuple x) = false := by rfl
theorem k_isBool_list (x : List PyData) : isBool (.list x) = false := by rfl
theorem k_isBool_dict (x : List (PyData × PyData)) : isBool (.dict x) = false := by rfl
theorem k_isInt_none : isInt .none = false := by rfl
theorem k_isInt_bool (x : Bool) : isInt (.bool x) = true := by rfl
theorem k_isInt_int (x : Int) : isInt (.int x) = true := by rfl
theorem k_isInt_str (x : Str) : isInt (.str x) = false := by rfl
theorem k_isInt_tuple (x : List PyData) : isInt (.tuple x) = false := by rfl
theorem k_isInt_list (x : List PyData) : isInt (.list x) = false := by rfl
theorem k_isInt_dict (x : List (PyData × PyData)) : isInt (.dict x) = false := by rfl
theorem k_isList_none : isList .none = false := by rfl
theorem k_isList_bool (x : Bool) : isList (.bool x) = false := by rfl
theorem k_isList_int (x : Int) : isList (.int x) = false := by rfl
theorem k_isList_str (x : Str) : isList (.str x) = false := by rfl
theorem k_isList_tuple (x : List PyData) : isList (.tuple x) = false := by rfl
theorem k_isList_list (x : List PyData) : isList (.list x) = true := by rfl
theorem k_isList_dict (x : List (PyData × PyData)) : isList (.dict x) = false := by rfl
theorem k_isDict_none : isDict .none = false := by rfl
theorem k_isDict_bool (x : Bool) : isDict (.bool x) = false := by rfl
theorem k_isDict_int (x : Int) : isDict (.int x) = false := by rfl
theorem k_isDict_str (x : Str) : isDict (.str x) = false := by rfl
theorem k_isDict_tuple (x : List PyData) : isDict (.tuple x) = false := by rfl
theorem k_isDict_list (x : List PyData) : isDict (.list x) = false := by rfl
theorem k_isDict_dict (x : List (PyData × PyData)) : isDict (.dict x) = true := by rfl
theorem k_isNon_none : isNon .none = true := by rfl
theorem k_isNon_bool (x : Bool) : isNon (.bool x) = false := by rfl
theorem k_isNon_int (x : Int) : isNon (.int x) = false := by rfl
theorem k_isNon_str (x : Str) : isNon (.str x) = false := by rfl
theorem k_isNon_tuple (x : List PyData) : isNon (.tuple x) = false := by rfl
theorem k_isNon_list (x : List PyData) : isNon (.list x) = false := by rfl
theorem k_isNon_dict (x : List (PyData × PyData)) : isNon (.dict x) = false := by rfl
theorem k_oIs (p : PyData → Bool) (x : PyData) : oIs p x = some (.bool (p x)) := by rfl
theorem k_oIsN (x : PyData) : oIsN x = some (.bool (isNon x)) := by rfl
theorem k_oNotN (x : PyData) : oNotN x = some (.bool (!isNon x)) := by rfl
theorem k_len_s (x : Str) : oLen [.str x] = some (.int x.length) := by rfl
theorem k_len_t (x : List PyData) : oLen [.tuple x] = some (.int x.length) := by rfl
theorem k_len_l (x : List PyData) : oLen [.list x] = some (.int x.length) := by rfl
theorem k_asB (b : Bool) : asB (.bool b) = some b := by rfl
theorem k_asI (b : Int) : asI (.int b) = some (some b) := by rfl
theorem k_tru_none : truD .none = some (false) := by rfl
theorem k_tru_bool (x : Bool) : truD (.bool x) = some (x) := by rfl
theorem k_tru_int (x : Int) : truD (.int x) = some (x != 0) := by rfl
theorem k_tru_str (x : Str) : truD (.str x) = some ((x.length : Int) != 0) := by rfl
theorem k_tru_tuple (x : List PyData) : truD (.tuple x) = some (!x.isEmpty) := by rfl
theorem k_tru_list (x : List PyData) : truD (.list x) = some (!x.isEmpty) := by rfl
theorem k_tru_dict (x : List (PyData × PyData)) : truD (.dict x) = some (false) := by rfl
theorem k_ix_t (x : List PyData) (i : Int) : oIx (.tuple x) (.int i) = atI x i := by rfl
theorem k_ix_l (x : List PyData) (i : Int) : oIx (.list x) (.int i) = atI x i := by rfl
theorem k_ix_s (x : Str) (i : Int) : oIx (.str x) (.int i) = (atI x.cps.toList i).map fun c => .str ⟨#[c]⟩ := by rfl
theorem k_sl_t (x : List PyData) (l h : Option Int) : oSl (.tuple x) l h = some (.tuple (cutP x l h)) := by rfl
theorem k_sl_l (x : List PyData) (l h : Option Int) : oSl (.list x) l h = some (.list (cutP x l h)) := by rfl
theorem k_sl_s (x : Str) (l h : Option Int) : oSl (.str x) l h = some (.str (cutS x l h)) := by rfl
theorem k_abs (i : Int) : oAbs [.int i] = some (.int (absI i)) := by rfl
theorem k_max (i j : Int) : oMax [.int i, .int j] = some (.int (if j > i then j else i)) := by rfl
theorem k_min (i j : Int) : oMin [.int i, .int j] = some (.int (if j < i then j else i)) := by rfl
theorem k_int_i (i : Int) : oInt [.int i] = some (.int i) := by rfl
theorem k_int_b (b : Bool) : oInt [.bool b] = some (.int (b2i b)) := by rfl
theorem k_tup_l (x : List PyData) : oTup [.list x] = some (.tuple x) := by rfl
theorem k_tup_t (x : List PyData) : oTup [.tuple x] = some (.tuple x) := by rfl
theorem k_lst_l (x : List PyData) : oList [.list x] = some (.list x) := by rfl
theorem k_lst_t (x : List PyData) : oList [.tuple x] = some (.list x) := by rfl
theorem k_all (x : List PyData) : oAll [.list x] = (allB x).map fun bs => .bool (bs.all id) := by rfl
theorem k_any (x : List PyData) : oAny [.list x] = (allB x).map fun bs => .bool (bs.any id) := by rfl
theorem k_itL (x : List PyData) : itL (.list x) = some x := by rfl
theorem k_itT (x : List PyData) : itT (.tuple x) = some x := by rfl
theorem k_itS (x : Str) : itS (.str x) = some (sgn x) := by rfl
theorem k_itZ_ll (x y : List PyData) : itZ [.list x, .list y] = some (List.zipWith (fun x y => .tuple [x, y]) x y) := by rfl
theorem k_itZ_tt (x y : List PyData) : itZ [.tuple x, .tuple y] = some (List.zipWith (fun x y => .tuple [x, y]) x y) := by rfl
theorem k_τN (i : Nat) (d : PyData) : τN i d = some [(i, d)] := by rfl
theorem k_τNil : τNil [] = some [] := by rfl
theorem k_τCons (t : Tf) (u : List PyData → Option (List (Nat × PyData))) (d : PyData) (ds : List PyData) : τCons t u (d :: ds) = (t d).bind fun a => (u ds).map fun b => a ++ b := by rfl
theorem k_τT (n : Nat) (u : List PyData → Option (List (Nat × PyData))) (ds : List PyData) : τT n u (.tuple ds) = if ds.length = n then u ds else none := by rfl
theorem k_setE_nil (E : Env') : setE E [] = E := by rfl
theorem k_setE_cons (E : Env') (i : Nat) (d : PyData) (ps : List (Nat × PyData)) : setE E ((i, d) :: ps) = setE (E.set i (B.v d)) ps := by rfl
theorem k_wipe_nil (E : Env') : wipeE E [] = E := by rfl
theorem k_wipe_cons (E : Env') (v : Nat) (vs : List Nat) : wipeE E (v :: vs) = (wipeE E vs).set v B.u := by rfl
theorem k_back_nil (E E' : Env') : backE E E' [] = E' := by rfl
theorem k_back_cons (E E' : Env') (v : Nat) (vs : List Nat) : backE E E' (v :: vs) = (match E[v]? with | some b => (backE E E' vs).set v b | none => backE E E' vs) := by rfl
theorem k_own_u : isOwn (some B.u) = false := by rfl
theorem k_own_v (d : PyData) : isOwn (some (B.v d)) = false := by rfl
theorem k_own_o (d : M) : isOwn (some (B.o d)) = true := by rfl
theorem k_allB_nil : allB [] = some [] := by rfl
theorem k_allB_cons (d : PyData) (ds : List PyData) : allB (d :: ds) = (asB d).bind fun b => (allB ds).map fun bs => b :: bs := by rfl
theorem k_inT (t : List (Str × PyData)) (f : Bool → Bool) (z : Str) : oInT t f (.str z) = some (.bool (f (tblLook t z).isSome)) := by rfl
theorem k_ixT (t : List (Str × PyData)) (z : Str) : oIxT t (.str z) = tblLook t z := by rfl
theorem k_rng1 (n : Int) : itR1 [.int n] = itR 0 n := by rfl
theorem k_rng2 (m n : Int) : itR2 [.int m, .int n] = itR m n := by rfl
theorem k_rep_1 {α : Type} (b : α) : List.replicate 1 b = [b] := by rfl
theorem k_rep_2 {α : Type} (b : α) : List.replicate 2 b = [b, b] := by rfl
theorem k_rep_3 {α : Type} (b : α) : List.replicate 3 b = [b, b, b] := by rfl
theorem k_rep_4 {α : Type} (b : α) : List.replicate 4 b = [b, b, b, b] := by rfl
theorem k_rep_5 {α : Type} (b : α) : List.replicate 5 b = [b, b, b, b, b] := by rfl
theorem k_rep_6 {α : Type} (b : α) : List.replicate 6 b = [b, b, b, b, b, b] := by rfl
theorem k_rep_7 {α : Type} (b : α) : List.replicate 7 b = [b, b, b, b, b, b, b] := by rfl
theorem k_rep_8 {α : Type} (b : α) : List.replicate 8 b = [b, b, b, b, b, b, b, b] := by rfl
theorem k_rep_9 {α : Type} (b : α) : List.replicate 9 b = [b, b, b, b, b, b, b, b, b] := by rfl
theorem k_rep_10 {α : Type} (b : α) : List.replicate 10 b = [b, b, b, b, b, b, b, b, b, b] := by rfl
theorem k_rep_11 {α : Type} (b : α) : List.replicate 11 b = [b, b, b, b, b, b, b, b, b, b, b] := by rfl
theorem k_rep_12 {α : Type} (b : α) : List.replicate 12 b = [b, b, b, b, b, b, b, b, b, b, b, b] := by rfl
theorem k_rep_13 {α : Type} (b : α) : List.replicate 13 b = [b, b, b, b, b, b, b, b, b, b, b, b, b] := by rfl
theorem k_rep_14 {α : Type} (b : α) : List.replicate 14 b = [b, b, b, b, b, b, b, b, b, b, b, b, b, b] := by rfl
theorem k_rep_15 {α : Type} (b : α) : List.replicate 15 b = [b, b, b, b, b, b, b, b, b, b, b, b, b, b, b] := by rfl
theorem k_rep_16 {α : Type} (b : α) : List.replicate 16 b = [b, b, b, b, b, b, b, b, b, b, b, b, b, b, b, b] := by rfl
theorem k_rep_17 {α : Type} (b : α) : List.replicate 17 b = [b, b, b, b, b, b, b, b, b, b, b, b, b, b, b, b, b] := by rfl
theorem k_rep_18 {α : Type} (b : α) : List.replicate 18 b = [b, b, b, b, b, b, b, b, b, b, b, b, b, b, b, b, b, b] := by rfl
theorem k_rep_19 {α : Type} (b : α) : List.replicate 19 b = [b, b, b, b, b, b, b, b, b, b, b, b, b, b, b, b, b, b, b] := by rfl
theorem k_rep_20 {α : Type} (b : α) : List.replicate 20 b = [b, b, b, b, b, b, b, b, b, b, b, b, b, b, b, b, b, b, b, b] := by rfl
theorem k_rep_0 {α : Type} (b : α) : List.replicate 0 b = [] := by rfl
theorem k_atI_0 {α : Type} (x0 : α) (xs : List α) : atI (x0 :: xs) 0 = some x0 := by exact atI_nat (i := 0) rfl
theorem k_atI_1 {α : Type} (x0 x1 : α) (xs : List α) : atI (x0 :: x1 :: xs) 1 = some x1 := by exact atI_nat (i := 1) rfl
theorem k_atI_2 {α : Type} (x0 x1 x2 : α) (xs : List α) : atI (x0 :: x1 :: x2 :: xs) 2 = some x2 := by exact atI_nat (i := 2) rfl
theorem k_atI_3 {α : Type} (x0 x1 x2 x3 : α) (xs : List α) : atI (x0 :: x1 :: x2 :: x3 :: xs) 3 = some x3 := by exact atI_nat (i := 3) rfl
theorem k_atI_4 {α : Type} (x0 x1 x2 x3 x4 : α) (xs : List α) : atI (x0 :: x1 :: x2 :: x3 :: x4 :: xs) 4 = some x4 := by exact atI_nat (i := 4) rfl
theorem k_atI_5 {α : Type} (x0 x1 x2 x3 x4 x5 : α) (xs : List α) : atI (x0 :: x1 :: x2 :: x3 :: x4 :: x5 :: xs) 5 = some x5 := by exact atI_nat (i := 5) rfl
theorem k_atI_6 {α : Type} (x0 x1 x2 x3 x4 x5 x6 : α) (xs : List α) : atI (x0 :: x1 :: x2 :: x3 :: x4 :: x5 :: x6 :: xs) 6 = some x6 := by exact atI_nat (i := 6) rfl
theorem k_atI_7 {α : Type} (x0 x1 x2 x3 x4 x5 x6 x7 : α) (xs : List α) : atI (x0 :: x1 :: x2 :: x3 :: x4 :: x5 :: x6 :: x7 :: xs) 7 = some x7 := by exact atI_nat (i := 7) rfl
theorem k_atI_8 {α : Type} (x0 x1 x2 x3 x4 x5 x6 x7 x8 : α) (xs : List α) : atI (x0 :: x1 :: x2 :: x3 :: x4 :: x5 :: x6 :: x7 :: x8 :: xs) 8 = some x8 := by exact atI_nat (i := 8) rfl
theorem k_atI_9 {α : Type} (x0 x1 x2 x3 x4 x5 x6 x7 x8 x9 : α) (xs : List α) : atI (x0 :: x1 :: x2 :: x3 :: x4 :: x5 :: x6 :: x7 :: x8 :: x9 :: xs) 9 = some x9 := by exact atI_nat (i := 9) rfl
theorem k_atI_10 {α : Type} (x0 x1 x2 x3 x4 x5 x6 x7 x8 x9 x10 : α) (xs : List α) : atI (x0 :: x1 :: x2 :: x3 :: x4 :: x5 :: x6 :: x7 :: x8 :: x9 :: x10 :: xs) 10 = some x10 := by exact atI_nat (i := 10) rfl
theorem k_atI_11 {α : Type} (x0 x1 x2 x3 x4 x5 x6 x7 x8 x9 x10 x11 : α) (xs : List α) : atI (x0 :: x1 :: x2 :: x3 :: x4 :: x5 :: x6 :: x7 :: x8 :: x9 :: x10 :: x11 :: xs) 11 = some x11 := by exact atI_nat (i := 11) rfl
theorem k_atI_12 {α : Type} (x0 x1 x2 x3 x4 x5 x6 x7 x8 x9 x10 x11 x12 : α) (xs : List α) : atI (x0 :: x1 :: x2 :: x3 :: x4 :: x5 :: x6 :: x7 :: x8 :: x9 :: x10 :: x11 :: x12 :: xs) 12 = some x12 := by exact atI_nat (i := 12) rfl
theorem k_atI_13 {α : Type} (x0 x1 x2 x3 x4 x5 x6 x7 x8 x9 x10 x11 x12 x13 : α) (xs : List α) : atI (x0 :: x1 :: x2 :: x3 :: x4 :: x5 :: x6 :: x7 :: x8 :: x9 :: x10 :: x11 :: x12 :: x13 :: xs) 13 = some x13 := by exact atI_nat (i := 13) rfl
theorem k_ixN_0 (n : Nat) : ixN n 0 = if 0 < n then some 0 else none := by show (if (0 : Int) ≤ ((0 : Nat) : Int) then (if ((0 : Nat) : Int) < n then some ((0 : Nat) : Int).toNat else none) else _) = _; rw [if_pos (by omega)]; by_cases h : 0 < n <;> simp [h] <;> omega
theorem k_ixN_1 (n : Nat) : ixN n 1 = if 1 < n then some 1 else none := by show (if (0 : Int) ≤ ((1 : Nat) : Int) then (if ((1 : Nat) : Int) < n then some ((1 : Nat) : Int).toNat else none) else _) = _; rw [if_pos (by omega)]; by_cases h : 1 < n <;> simp [h] <;> omega
theorem k_ixN_2 (n : Nat) : ixN n 2 = if 2 < n then some 2 else none := by show (if (0 : Int) ≤ ((2 : Nat) : Int) then (if ((2 : Nat) : Int) < n then some ((2 : Nat) : Int).toNat else none) else _) = _; rw [if_pos (by omega)]; by_cases h : 2 < n <;> simp [h] <;> omega
theorem k_ixN_3 (n : Nat) : ixN n 3 = if 3 < n then some 3 else none := by show (if (0 : Int) ≤ ((3 : Nat) : Int) then (if ((3 : Nat) : Int) < n then some ((3 : Nat) : Int).toNat else none) else _) = _; rw [if_pos (by omega)]; by_cases h : 3 < n <;> simp [h] <;> omega
theorem k_ixN_4 (n : Nat) : ixN n 4 = if 4 < n then some 4 else none := by show (if (0 : Int) ≤ ((4 : Nat) : Int) then (if ((4 : Nat) : Int) < n then some ((4 : Nat) : Int).toNat else none) else _) = _; rw [if_pos (by omega)]; by_cases h : 4 < n <;> simp [h] <;> omega
theorem k_ixN_5 (n : Nat) : ixN n 5 = if 5 < n then some 5 else none := by show (if (0 : Int) ≤ ((5 : Nat) : Int) then (if ((5 : Nat) : Int) < n then some ((5 : Nat) : Int).toNat else none) else _) = _; rw [if_pos (by omega)]; by_cases h : 5 < n <;> simp [h] <;> omega
theorem k_ixN_6 (n : Nat) : ixN n 6 = if 6 < n then some 6 else none := by show (if (0 : Int) ≤ ((6 : Nat) : Int) then (if ((6 : Nat) : Int) < n then some ((6 : Nat) : Int).toNat else none) else _) = _; rw [if_pos (by omega)]; by_cases h : 6 < n <;> simp [h] <;> omega
theorem k_ixN_7 (n : Nat) : ixN n 7 = if 7 < n then some 7 else none := by show (if (0 : Int) ≤ ((7 : Nat) : Int) then (if ((7 : Nat) : Int) < n then some ((7 : Nat) : Int).toNat else none) else _) = _; rw [if_pos (by omega)]; by_cases h : 7 < n <;> simp [h] <;> omega
theorem k_b2i_t : b2i true = 1 := by rfl
theorem k_b2i_f : b2i false = 0 := by rfl
theorem k_flat_c {α : Type} (x : List α) (xs : List (List α)) : (x :: xs).flatten = x ++ xs.flatten := by rfl
theorem k_flat_n {α : Type} : ([] : List (List α)).flatten = [] := by rfl
theorem k_in_t (x : PyData) (ys : List PyData) : oIn x (.tuple ys) = if (flatP x && ys.all flatP) = true then some (.bool (ys.any fun y => eqF y x)) else none := by show (if (flatP x && ys.all flatP) = true then some (ys.any fun y => eqF y x) else none).map PyData.bool = _; cases (flatP x && ys.all flatP) <;> rfl
theorem k_in_l (x : PyData) (ys : List PyData) : oIn x (.list ys) = if (flatP x && ys.all flatP) = true then some (.bool (ys.any fun y => eqF y x)) else none := by show (if (flatP x && ys.all flatP) = true then some (ys.any fun y => eqF y x) else none).map PyData.bool = _; cases (flatP x && ys.all flatP) <;> rfl
theorem k_nin_t (x : PyData) (ys : List PyData) : oNotIn x (.tuple ys) = if (flatP x && ys.all flatP) = true then some (.bool (!(ys.any fun y => eqF y x))) else none := by show (if (flatP x && ys.all flatP) = true then some (ys.any fun y => eqF y x) else none).map (fun b => PyData.bool (!b)) = _; cases (flatP x && ys.all flatP) <;> rfl
theorem k_nin_l (x : PyData) (ys : List PyData) : oNotIn x (.list ys) = if (flatP x && ys.all flatP) = true then some (.bool (!(ys.any fun y => eqF y x))) else none := by show (if (flatP x && ys.all flatP) = true then some (ys.any fun y => eqF y x) else none).map (fun b => PyData.bool (!b)) = _; cases (flatP x && ys.all flatP) <;> rfl
theorem k_flat_none : flatP .none = true := by rfl
theorem k_flat_bool (x : Bool) : flatP (.bool x) = true := by rfl
theorem k_flat_int (x : Int) : flatP (.int x) = true := by rfl
theorem k_flat_str (x : Str) : flatP (.str x) = true := by rfl
theorem k_flat_tuple (x : List PyData) : flatP (.tuple x) = false := by rfl
theorem k_flat_list (x : List PyData) : flatP (.list x) = false := by rfl
theorem k_flat_dict (x : List (PyData × PyData)) : flatP (.dict x) = false := by rfl
theorem k_eqF_none_none : eqF .none .none = true := by rfl
theorem k_eqF_none_int (y : Int) : eqF .none (.int y) = false := by rfl
theorem k_eqF_none_str (y : Str) : eqF .none (.str y) = false := by rfl
theorem k_eqF_none_bool (y : Bool) : eqF .none (.bool y) = false := by rfl
theorem k_eqF_int_none (x : Int) : eqF (.int x) .none = false := by rfl
theorem k_eqF_int_int (x : Int) (y : Int) : eqF (.int x) (.int y) = decide (y = x) := by exact if h : x = y then by subst h; simp [eqF] else by simp [eqF, h, Ne.symm h]
theorem k_eqF_int_str (x : Int) (y : Str) : eqF (.int x) (.str y) = false := by rfl
theorem k_eqF_str_none (x : Str) : eqF (.str x) .none = false := by rfl
theorem k_eqF_str_int (x : Str) (y : Int) : eqF (.str x) (.int y) = false := by rfl
theorem k_eqF_str_str (x : Str) (y : Str) : eqF (.str x) (.str y) = decide (y = x) := by exact if h : x = y then by subst h; simp [eqF] else by simp [eqF, h, Ne.symm h]
theorem k_eqF_str_bool (x : Str) (y : Bool) : eqF (.str x) (.bool y) = false := by rfl
theorem k_eqF_bool_none (x : Bool) : eqF (.bool x) .none = false := by rfl
theorem k_eqF_bool_str (x : Bool) (y : Str) : eqF (.bool x) (.str y) = false := by rfl
theorem k_eqF_bool_bool (x : Bool) (y : Bool) : eqF (.bool x) (.bool y) = decide (y = x) := by exact if h : x = y then by subst h; simp [eqF] else by simp [eqF, h, Ne.symm h]
theorem k_some_bind {α β : Type} (a : α) (f : α → Option β) : (some a).bind f = f a := by rfl
theorem k_some_map {α β : Type} (a : α) (f : α → β) : (some a).map f = some (f a) := by rfl
theorem k_dec_b (b : Bool) : decide (b = true) = b := by cases b <;> rfl
theorem k_wif_same (b : Bool) (P : Prop) : wif b P P = P := by cases b <;> simp [wif]
theorem k_nodup_1 (a : Nat) : [a].Nodup = True := by simp
theorem k_nodup_2 (a b : Nat) : [a, b].Nodup = (a ≠ b) := by simp
theorem k_nodup_3 (a b c : Nat) : [a, b, c].Nodup = ((a ≠ b ∧ a ≠ c) ∧ b ≠ c) := by simp
theorem k_nodup_4 (a b c d : Nat) : [a, b, c, d].Nodup = ((a ≠ b ∧ a ≠ c ∧ a ≠ d) ∧ (b ≠ c ∧ b ≠ d) ∧ c ≠ d) := by simp
theorem k_ofS (a b : String) : (Str.ofString a = Str.ofString b) = (a = b) := by
  refine propext ⟨fun h => ?_, fun h => by rw [h]⟩
  rw [Str.ofString_eq_toList, Str.ofString_eq_toList] at h
  have h1 : a.toList.map Char.toNat = b.toList.map Char.toNat := by
    have h2 := congrArg (fun s : Str => s.cps.toList) h
    simpa using h2
  exact String.toList_inj.mp ((List.map_inj_right (fun c d e => Char.toNat_inj.mp e)).mp h1)
theorem k_ne_dec (i : Int) : (i != 0) = !decide (i = 0) := by rfl
end
def kW := And.intro @we_C <| And.intro @we_f1 <| And.intro @we_f2 <| And.intro @we_f1s <| And.intro @we_f2l <| And.intro @we_f2r <| And.intro @we_aNil <| And.intro @we_aV <| And.intro @we_aS <| And.intro @we_fB <| And.intro @we_fZ <| And.intro @we_fDisp <| And.intro @we_fLst1 <| And.intro @we_vL <| And.intro @we_gYes <| And.intro @we_pNo <| And.intro @we_fSl <| And.intro @we_fSls <| And.intro @we_fChain <| And.intro @we_fAnd <| And.intro @we_fOr <| And.intro @we_fAndV <| And.intro @we_fOrV <| And.intro @we_fIf <| And.intro @we_fIfC <| And.intro @we_fCall <| And.intro @we_fCallL <| And.intro @we_fCallT <| And.intro @we_aK <| And.intro @wc_body <| And.intro @wc_bodyL <| And.intro @ws_seq <| And.intro @we_qSeq <| And.intro @ws_nil <| And.intro @ws_bk <| And.intro @ws_ct <| And.intro @ws_ret <| And.intro @ws_retN <| And.intro @ws_retO <| And.intro @ws_if <| And.intro @ws_expr <| And.intro @ws_asgN <| And.intro @ws_asg <| And.intro @ws_par2 <| And.intro @ws_par3 <| And.intro @ws_app <| And.intro @ws_setI <| And.intro @ws_own <| And.intro @we_V0 <| And.intro @we_V1 <| And.intro @we_V2 <| And.intro @we_V3 <| And.intro @we_V4 <| And.intro @we_V5 <| And.intro @we_V6 <| And.intro @we_V7 <| And.intro @we_V8 <| And.intro @we_V9 <| And.intro @we_V10 <| And.intro @we_V11 <| And.intro @we_V12 <| And.intro @we_V13 <| And.intro @we_V14 <| And.intro @we_V15 <| And.intro @we_V16 <| And.intro @we_V17 <| And.intro @we_V18 <| And.intro @we_V19 <| And.intro @we_V20 <| And.intro @we_V21 <| And.intro @we_V22 <| And.intro @we_V23 <| And.intro @we_V24 <| @we_V25
def kP := And.intro @slotLt_nil <| And.intro @slotLt_v <| And.intro @slotLt_s <| And.intro @unM_lst <| And.intro @lst_unM <| And.intro @wif_t <| And.intro @wif_f <| And.intro @wo_some <| And.intro @wo_none <| And.intro @wo_bind <| And.intro @wo_map <| And.intro @wk_nx <| And.intro @wk_rt <| And.intro @wk_bk <| And.intro @wk_ct <| And.intro @wr_rt <| And.intro @wr_nx <| And.intro @wp_nil <| And.intro @wp_cons <| And.intro @slots_nil <| And.intro @slots_v <| And.intro @slots_s <| And.intro @kB_nil <| And.intro @kB_v <| And.intro @kB_s <| And.intro @resAll_nil <| And.intro @resAll_v <| And.intro @resAll_s <| And.intro @onlyV_nil <| And.intro @onlyV_v <| And.intro @getO_0 <| And.intro @getO_1 <| And.intro @getO_2 <| And.intro @getO_3 <| And.intro @getO_4 <| And.intro @getO_5 <| And.intro @getO_6 <| And.intro @getO_7 <| And.intro @getO_8 <| And.intro @getO_9 <| And.intro @getO_10 <| And.intro @getO_11 <| And.intro @getO_12 <| And.intro @getO_13 <| And.intro @getO_14 <| And.intro @getO_15 <| And.intro @getO_16 <| And.intro @getO_17 <| And.intro @getO_18 <| And.intro @getO_19 <| And.intro @getO_20 <| And.intro @getO_21 <| And.intro @getO_22 <| And.intro @getO_23 <| And.intro @getO_24 <| And.intro @getO_25 <| And.intro @set_0 <| And.intro @set_1 <| And.intro @set_2 <| And.intro @set_3 <| And.intro @set_4 <| And.intro @set_5 <| And.intro @set_6 <| And.intro @set_7 <| And.intro @set_8 <| And.intro @set_9 <| And.intro @set_10 <| And.intro @set_11 <| And.intro @set_12 <| And.intro @set_13 <| And.intro @set_14 <| And.intro @set_15 <| And.intro @set_16 <| And.intro @set_17 <| And.intro @set_18 <| And.intro @set_19 <| And.intro @set_20 <| And.intro @set_21 <| And.intro @set_22 <| And.intro @set_23 <| And.intro @set_24 <| And.intro @set_25 <| And.intro @at_0 <| And.intro @at_1 <| And.intro @at_2 <| And.intro @at_3 <| And.intro @at_4 <| And.intro @at_5 <| And.intro @at_6 <| And.intro @at_7 <| And.intro @at_8 <| And.intro @at_9 <| And.intro @at_10 <| And.intro @at_11 <| And.intro @at_12 <| And.intro @at_13 <| And.intro @at_14 <| And.intro @at_15 <| And.intro @at_16 <| And.intro @at_17 <| And.intro @at_18 <| And.intro @at_19 <| And.intro @at_20 <| And.intro @at_21 <| And.intro @at_22 <| And.intro @at_23 <| And.intro @at_24 <| And.intro @at_25 <| And.intro @take_1 <| And.intro @take_2 <| And.intro @take_3 <| And.intro @take_4 <| And.intro @take_5 <| And.intro @take_6 <| And.intro @take_7 <| And.intro @take_8 <| And.intro @take_9 <| And.intro @take_10 <| And.intro @take_11 <| And.intro @take_12 <| And.intro @take_13 <| And.intro @take_14 <| And.intro @take_15 <| And.intro @take_16 <| And.intro @take_17 <| And.intro @take_18 <| And.intro @take_19 <| And.intro @take_20 <| And.intro @take_21 <| And.intro @take_22 <| And.intro @take_23 <| And.intro @take_24 <| And.intro @take_25 <| And.intro @k_add_ii <| And.intro @k_add_ss <| And.intro @k_add_tt <| And.intro @k_add_ll <| And.intro @k_sub_ii <| And.intro @k_mul_ii <| And.intro @k_mul_li <| And.intro @k_div_ii <| And.intro @k_mod_ii <| And.intro @k_pow_ii <| And.intro @k_rel_ii <| And.intro @k_eq_none_none <| And.intro @k_ne_none_none <| And.intro @k_eq_none_bool <| And.intro @k_ne_none_bool <| And.intro @k_eq_none_int <| And.intro @k_ne_none_int <| And.intro @k_eq_none_str <| And.intro @k_ne_none_str <| And.intro @k_eq_none_tuple <| And.intro @k_ne_none_tuple <| And.intro @k_eq_bool_none <| And.intro @k_ne_bool_none <| And.intro @k_eq_bool_bool <| And.intro @k_ne_bool_bool <| And.intro @k_eq_bool_str <| And.intro @k_ne_bool_str <| And.intro @k_eq_bool_tuple <| And.intro @k_ne_bool_tuple <| And.intro @k_eq_int_none <| And.intro @k_ne_int_none <| And.intro @k_eq_int_int <| And.intro @k_ne_int_int <| And.intro @k_eq_int_str <| And.intro @k_ne_int_str <| And.intro @k_eq_int_tuple <| And.intro @k_ne_int_tuple <| And.intro @k_eq_str_none <| And.intro @k_ne_str_none <| And.intro @k_eq_str_bool <| And.intro @k_ne_str_bool <| And.intro @k_eq_str_int <| And.intro @k_ne_str_int <| And.intro @k_eq_str_str <| And.intro @k_ne_str_str <| And.intro @k_eq_str_tuple <| And.intro @k_ne_str_tuple <| And.intro @k_eq_tuple_none <| And.intro @k_ne_tuple_none <| And.intro @k_eq_tuple_bool <| And.intro @k_ne_tuple_bool <| And.intro @k_eq_tuple_int <| And.intro @k_ne_tuple_int <| And.intro @k_eq_tuple_str <| And.intro @k_ne_tuple_str <| And.intro @k_eq_nil_l <| And.intro @k_eq_nil_r <| And.intro @k_ne_nil_l <| And.intro @k_ne_nil_r <| And.intro @k_eqL_nil_r <| And.intro @k_eqL_nil_l <| And.intro @k_isTup_none <| And.intro @k_isTup_bool <| And.intro @k_isTup_int <| And.intro @k_isTup_str <| And.intro @k_isTup_tuple <| And.intro @k_isTup_list <| And.intro @k_isTup_dict <| And.intro @k_isStr_none <| And.intro @k_isStr_bool <| And.intro @k_isStr_int <| And.intro @k_isStr_str <| And.intro @k_isStr_tuple <| And.intro @k_isStr_list <| And.intro @k_isStr_dict <| And.intro @k_isBool_none <| And.intro @k_isBool_bool <| And.intro @k_isBool_int <| And.intro @k_isBool_str <| And.intro @k_isBool_tuple <| And.intro @k_isBool_list <| And.intro @k_isBool_dict <| And.intro @k_isInt_none <| And.intro @k_isInt_bool <| And.intro @k_isInt_int <| And.intro @k_isInt_str <| And.intro @k_isInt_tuple <| And.intro @k_isInt_list <| And.intro @k_isInt_dict <| And.intro @k_isList_none <| And.intro @k_isList_bool <| And.intro @k_isList_int <| And.intro @k_isList_str <| And.intro @k_isList_tuple <| And.intro @k_isList_list <| And.intro @k_isList_dict <| And.intro @k_isDict_none <| And.intro @k_isDict_bool <| And.intro @k_isDict_int <| And.intro @k_isDict_str <| And.intro @k_isDict_tuple <| And.intro @k_isDict_list <| And.intro @k_isDict_dict <| And.intro @k_isNon_none <| And.intro @k_isNon_bool <| And.intro @k_isNon_int <| And.intro @k_isNon_str <| And.intro @k_isNon_tuple <| And.intro @k_isNon_list <| And.intro @k_isNon_dict <| And.intro @k_oIs <| And.intro @k_oIsN <| And.intro @k_oNotN <| And.intro @k_len_s <| And.intro @k_len_t <| And.intro @k_len_l <| And.intro @k_asB <| And.intro @k_asI <| And.intro @k_tru_none <| And.intro @k_tru_bool <| And.intro @k_tru_int <| And.intro @k_tru_str <| And.intro @k_tru_tuple <| And.intro @k_tru_list <| And.intro @k_tru_dict <| And.intro @k_ix_t <| And.intro @k_ix_l <| And.intro @k_ix_s <| And.intro @k_sl_t <| And.intro @k_sl_l <| And.intro @k_sl_s <| And.intro @k_abs <| And.intro @k_max <| And.intro @k_min <| And.intro @k_int_i <| And.intro @k_int_b <| And.intro @k_tup_l <| And.intro @k_tup_t <| And.intro @k_lst_l <| And.intro @k_lst_t <| And.intro @k_all <| And.intro @k_any <| And.intro @k_itL <| And.intro @k_itT <| And.intro @k_itS <| And.intro @k_itZ_ll <| And.intro @k_itZ_tt <| And.intro @k_τN <| And.intro @k_τNil <| And.intro @k_τCons <| And.intro @k_τT <| And.intro @k_setE_nil <| And.intro @k_setE_cons <| And.intro @k_wipe_nil <| And.intro @k_wipe_cons <| And.intro @k_back_nil <| And.intro @k_back_cons <| And.intro @k_own_u <| And.intro @k_own_v <| And.intro @k_own_o <| And.intro @k_allB_nil <| And.intro @k_allB_cons <| And.intro @k_inT <| And.intro @k_ixT <| And.intro @k_rng1 <| And.intro @k_rng2 <| And.intro @k_rep_1 <| And.intro @k_rep_2 <| And.intro @k_rep_3 <| And.intro @k_rep_4 <| And.intro @k_rep_5 <| And.intro @k_rep_6 <| And.intro @k_rep_7 <| And.intro @k_rep_8 <| And.intro @k_rep_9 <| And.intro @k_rep_10 <| And.intro @k_rep_11 <| And.intro @k_rep_12 <| And.intro @k_rep_13 <| And.intro @k_rep_14 <| And.intro @k_rep_15 <| And.intro @k_rep_16 <| And.intro @k_rep_17 <| And.intro @k_rep_18 <| And.intro @k_rep_19 <| And.intro @k_rep_20 <| And.intro @k_rep_0 <| And.intro @k_atI_0 <| And.intro @k_atI_1 <| And.intro @k_atI_2 <| And.intro @k_atI_3 <| And.intro @k_atI_4 <| And.intro @k_atI_5 <| And.intro @k_atI_6 <| And.intro @k_atI_7 <| And.intro @k_atI_8 <| And.intro @k_atI_9 <| And.intro @k_atI_10 <| And.intro @k_atI_11 <| And.intro @k_atI_12 <| And.intro @k_atI_13 <| And.intro @k_ixN_0 <| And.intro @k_ixN_1 <| And.intro @k_ixN_2 <| And.intro @k_ixN_3 <| And.intro @k_ixN_4 <| And.intro @k_ixN_5 <| And.intro @k_ixN_6 <| And.intro @k_ixN_7 <| And.intro @k_b2i_t <| And.intro @k_b2i_f <| And.intro @k_flat_c <| And.intro @k_flat_n <| And.intro @k_in_t <| And.intro @k_in_l <| And.intro @k_nin_t <| And.intro @k_nin_l <| And.intro @k_flat_none <| And.intro @k_flat_bool <| And.intro @k_flat_int <| And.intro @k_flat_str <| And.intro @k_flat_tuple <| And.intro @k_flat_list <| And.intro @k_flat_dict <| And.intro @k_eqF_none_none <| And.intro @k_eqF_none_int <| And.intro @k_eqF_none_str <| And.intro @k_eqF_none_bool <| And.intro @k_eqF_int_none <| And.intro @k_eqF_int_int <| And.intro @k_eqF_int_str <| And.intro @k_eqF_str_none <| And.intro @k_eqF_str_int <| And.intro @k_eqF_str_str <| And.intro @k_eqF_str_bool <| And.intro @k_eqF_bool_none <| And.intro @k_eqF_bool_str <| And.intro @k_eqF_bool_bool <| And.intro @k_some_bind <| And.intro @k_some_map <| And.intro @k_dec_b <| And.intro @k_wif_same <| And.intro @k_nodup_1 <| And.intro @k_nodup_2 <| And.intro @k_nodup_3 <| And.intro @k_nodup_4 <| And.intro @k_ofS <| And.intro @k_ne_dec <| And.intro @wo_ite <| And.intro @k_outs_nil <| And.intro @k_outs_cons <| And.intro @Option.getD_some.{0} <| And.intro @List.cons_append.{0} <| And.intro @List.nil_append.{0} <| And.intro @List.append_nil.{0} <| And.intro @List.length_cons.{0} <| And.intro @List.length_nil.{0} <| And.intro @lg7 <| And.intro @lg7919 <| And.intro @lg104729 <| And.intro @lg60 <| And.intro @List.map_cons.{0,0} <| And.intro @List.map_nil.{0,0} <| And.intro @List.any_cons.{0} <| And.intro @List.any_nil.{0} <| And.intro @List.all_cons.{0} <| And.intro @List.all_nil.{0} <| And.intro @Bool.or_false <| And.intro @Bool.false_or <| And.intro @Bool.or_true <| And.intro @Bool.true_or <| And.intro @Bool.and_true <| And.intro @Bool.true_and <| And.intro @Bool.false_and <| And.intro @Bool.and_false <| And.intro @Bool.not_true <| And.intro @Bool.not_false <| And.intro @decide_true <| And.intro @decide_false <| And.intro @and_true <| And.intro @true_and <| And.intro @or_true <| And.intro @true_or <| And.intro @or_false <| And.intro @false_or <| And.intro @or_self <| And.intro @and_self <| And.intro @and_false <| And.intro @false_and <| And.intro @not_true_eq_false <| And.intro @not_false_eq_true <| And.intro @if_true.{1} <| And.intro @if_false.{1} <| And.intro @Option.some.injEq.{0} <| And.intro @List.nodup_nil.{0} <| And.intro @eq_self.{1} <| And.intro @PyData.int.injEq <| And.intro @PyData.str.injEq <| And.intro @PyData.bool.injEq <| And.intro @List.isEmpty_cons.{0} <| And.intro @List.isEmpty_nil.{0} <| And.intro @Option.isSome_some.{0} <| And.intro @Option.isSome_none.{0} <| And.intro @id_eq.{1} <| And.intro @Nat.zero_add <| And.intro @Int.add_sub_cancel <| And.intro @Int.toNat_natCast <| And.intro @Int.cast_ofNat_Int <| And.intro @Int.natCast_add <| And.intro @Int.natAbs_zero <| And.intro @ne_eq.{1} <| And.intro @ge_iff_le.{0} <| And.intro @gt_iff_lt.{0} <| @List.not_mem_nil.{0}
end DL

namespace DL
open PySem PySem.Spec PyProof.Rows L2
/-! ### what the newer statements and expressions lead to -/
section
variable {α β γ : Type}
theorem ws_star (fa : Ef) (i j : Nat) (E : Env') (Q : O → Prop) : ws (sStar fa i j) E Q = we fa E fun d E1 => wo (headTail d) fun p => Q (.nx ((E1.set i (B.v p.1)).set j (B.v (.list p.2)))) := by
  simp only [we_o, wo_0, wif_0, ws_o, sStar, wo0_bind, wo0_map]
  rfl
theorem ws_starO (fa : Ef) (i j : Nat) (E : Env') (Q : O → Prop) : ws (sStarO fa i j) E Q = we fa E fun d E1 => wo (headTail d) fun p => wif (decide (j < (E1.set i (B.v p.1)).length)) (Q (.nx ((E1.set i (B.v p.1)).set j (B.o (.lst p.2))))) False := by
  simp only [we_o, wo_0, wif_0, ws_o, sStarO, wo0_bind, wo0_ite, wo0_some, wo0_none]
  rfl
theorem k_ht_t (x : PyData) (xs : List PyData) : headTail (.tuple (x :: xs)) = some (x, xs) := rfl
theorem k_ht_l (x : PyData) (xs : List PyData) : headTail (.list (x :: xs)) = some (x, xs) := rfl
theorem ws_ext (i : Nat) (fa : Ef) (E : Env') (Q : O → Prop) : ws (sExt i fa) E Q = wo (getO i E) fun _ => we fa E fun d E1 => wo (getO i E1) fun xs => wo (seqD d) fun ys => wif (decide (xs.length + ys.length ≤ 16777216)) (Q (.nx (E1.set i (B.o (.lst (xs ++ ys)))))) False := by
  simp only [we_o, wo_0, wif_0, ws_o, sExt, wo0_bind, wo0_ite, wo0_some, wo0_none]
  rfl
theorem k_seqD_l (xs : List PyData) : seqD (.list xs) = some xs := rfl
theorem k_seqD_t (xs : List PyData) : seqD (.tuple xs) = some xs := rfl
theorem ws_frz (i : Nat) (E : Env') (Q : O → Prop) : ws (sFrz i) E Q = wo (getO i E) fun xs => Q (.nx (E.set i (B.v (.list xs)))) := by
  rcases h : E[i]? with _ | (_ | d | ⟨⟨xs⟩⟩) <;> simp [ws, sFrz, getO, h, wo]
theorem ws_never (E : Env') (Q : O → Prop) : ws sNever E Q = False := by simp [ws, sNever]
theorem we_lIf (gc : Ev Bool) (fa fb : Lf) (E : Env') (Q : List PyData → Env' → Prop) : we (lIf gc fa fb) E Q = we gc E fun b E1 => wif b (we fa E1 Q) (we fb E1 Q) := by
  simp only [we_o, wo_0, wif_0, lIf, wo0_bind, wo0_ifb]
def popK (d : PyData) (xs : List PyData) : Option (List PyData) := match d with
  | .int k => if -(2 ^ 63) ≤ k ∧ k < 2 ^ 63 then (seqIndex? k xs.length).bind fun j => if j < xs.length then some (xs.eraseIdx j) else none else none
  | _ => none
theorem k_pop1 (x y : PyData) (xs : List PyData) : popK (.int 1) (x :: y :: xs) = some (x :: xs) := by
  have h : seqIndex? 1 (x :: y :: xs).length = some 1 := by
    simp [seqIndex?]
    omega
  show (if -(2 ^ 63) ≤ (1 : Int) ∧ (1 : Int) < 2 ^ 63 then (seqIndex? 1 (x :: y :: xs).length).bind (fun j => if j < (x :: y :: xs).length then some ((x :: y :: xs).eraseIdx j) else none) else none) = _
  rw [if_pos (by decide), h]
  show (if 1 < (x :: y :: xs).length then some ((x :: y :: xs).eraseIdx 1) else none) = _
  rw [if_pos (by simp)]
  rfl
theorem ws_pop (i : Nat) (fa : Ef) (E : Env') (Q : O → Prop) : ws (sPop i fa) E Q = wo (getO i E) fun _ => we fa E fun d E1 => wo (getO i E1) fun xs => wo (popK d xs) fun ys => Q (.nx (E1.set i (B.o (.lst ys)))) := by
  simp only [we_o, wo_0, wif_0, ws_o, sPop, wo0_bind]
  congr 1
  funext _
  congr 1
  funext r
  congr 1
  funext xs
  rcases r with ⟨d, E1⟩
  cases d <;> simp only [popK, wo0_none]
  split
  · simp only [wo0_bind]
    congr 1
    funext j
    split
    · simp only [wo0_some]
    · simp only [wo0_none]
  · simp only [wo0_none]
def fmtD : PyData → Option PyData
  | .str y => some (.str y)
  | .int i => if i.natAbs.log2 < 1920 ∧ (Str.ofString (toString i)).length ≤ sizeLine then some (.str (toString i)) else none
  | _ => none
theorem k_fmt_s (y : Str) : fmtD (.str y) = some (.str y) := rfl
theorem we_fFmt (fa : Ef) (E : Env') (Q : PyData → Env' → Prop) : we (fFmt fa) E Q = we fa E fun d E1 => wo (fmtD d) fun z => Q z E1 := by
  unfold fFmt
  rw [we_f1]
  rfl
def wj : List Ef → Str → Env' → (Str → Env' → Prop) → Prop
  | [], acc, E, Q => Q acc E
  | f :: fs, acc, E, Q => we f E fun d E1 => match d with
    | .str y => wif (decide ((acc ++ y).length ≤ sizeLine)) (wj fs (acc ++ y) E1 Q) False
    | _ => False
theorem wj_nil (acc : Str) (E : Env') (Q : Str → Env' → Prop) : wj [] acc E Q = Q acc E := rfl
def wj1 (fs : List Ef) (acc : Str) (Q : Str → Env' → Prop) : PyData → Env' → Prop := fun d E1 => match d with
    | .str y => wif (decide ((acc ++ y).length ≤ sizeLine)) (wj fs (acc ++ y) E1 Q) False
    | _ => False
theorem wj_cons (f : Ef) (fs : List Ef) (acc : Str) (E : Env') (Q : Str → Env' → Prop) : wj (f :: fs) acc E Q = we f E fun d E1 => wj1 fs acc Q d E1 := rfl
theorem wj1_s (fs : List Ef) (acc : Str) (Q : Str → Env' → Prop) (y : Str) (E1 : Env') : wj1 fs acc Q (.str y) E1 = wif (decide ((acc ++ y).length ≤ 16777216)) (wj fs (acc ++ y) E1 Q) False := rfl
theorem wj_eq : ∀ (fs : List Ef) (acc : Str) (E : Env') (Q : Str → Env' → Prop), wj fs acc E Q = ∃ r, fJoin fs acc E = some r ∧ Q r.1 r.2
  | [], acc, E, Q => by simp [wj, fJoin]
  | f :: fs, acc, E, Q => by
    unfold wj fJoin
    unfold we
    cases h : f E with
    | none => simp
    | some r =>
      rcases r with ⟨d, E1⟩
      cases d with
      | str y =>
        by_cases hc : (acc ++ y).length ≤ sizeLine
        · simp [hc, wif_t, wj_eq fs (acc ++ y) E1 Q]
        · simp [hc, wif_f]
      | _ => simp
theorem we_fFstr (fs : List Ef) (E : Env') (Q : PyData → Env' → Prop) : we (fFstr fs) E Q = wj fs Str.empty E fun z E1 => Q (.str z) E1 := by
  rw [wj_eq]
  unfold we fFstr
  cases h : fJoin fs Str.empty E with
  | none => simp
  | some r => simp
theorem k_itQ_l (xs : List PyData) : itQ (.list xs) = some xs := rfl
theorem k_itQ_t (xs : List PyData) : itQ (.tuple xs) = some xs := rfl
theorem k_itZM (xs ys : List PyData) : itZM [.tuple xs, .list ys] = some (List.zipWith (fun x y => .tuple [x, y]) xs ys) := rfl
theorem k_addI_ii (i j : Int) : oAddI (.int i) (.int j) = some (.int (i + j)) := rfl
theorem k_addI_tt (xs ys : List PyData) : oAddI (.tuple xs) (.tuple ys) = if xs.length + ys.length ≤ 16777216 then some (.tuple (xs ++ ys)) else none := rfl
theorem k_neg_i (i : Int) : oNeg (.int i) = some (.int (-i)) := rfl
theorem k_str_s (z : Str) : oStr [.str z] = some (.str z) := rfl
theorem k_neL_nil (n : Int) : oNe (.list [.int n]) (.list []) = some (.bool true) := rfl
theorem k_neL_nil0 : oNe (.list []) (.list []) = some (.bool false) := rfl
theorem k_eqL_one {z : Str} (h : PyData.strOk z = true) : oEq (.list [.str z]) (.list []) = some (.bool false) := by
  simp [oEq, eqB, scB, SeqAt.shaped, PyData.canLay0, PyData.canLayAll0, PyData.depth, PyData.depthAll, PyData.eqv, PyData.eqvAll, h]
/-- a while by how many turns are left -/
theorem ws_wh {gc : Ev Bool} {body : Sf} {E : Env'} {Q : O → Prop} (I : Nat → Env' → Prop) (k : Nat) {n : Nat} (hk : k < n) (h0 : I k E)
    (hs : ∀ j E, j < k → I (j + 1) E → we gc E fun b E1 => b = true ∧ ws body E1 fun o => match o with | .nx E' => I j E' | .ct E' => I j E' | .bk E' => Q (.nx E') | .rt v E' => Q (.rt v E'))
    (hz : ∀ E, I 0 E → we gc E fun b E1 => b = false ∧ Q (.nx E1)) : ws (whL gc body n) E Q := by
  have key : ∀ (j n : Nat) (E : Env'), j ≤ k → j < n → I j E → ∃ o, whL gc body n E = some o ∧ Q o := by
    intro j
    induction j with
    | zero =>
      intro n E _ hn hI
      obtain ⟨m, rfl⟩ : ∃ m, n = m + 1 := ⟨n - 1, by omega⟩
      obtain ⟨⟨b, E1⟩, h1, h2, h3⟩ := hz E hI
      refine ⟨_, ?_, h3⟩
      unfold whL
      rw [h1]
      show (if b = true then _ else _) = _
      rw [if_neg (by rw [show b = false from h2]; decide)]
    | succ j ih =>
      intro n E hj hn hI
      obtain ⟨m, rfl⟩ : ∃ m, n = m + 1 := ⟨n - 1, by omega⟩
      obtain ⟨⟨b, E1⟩, h1, h2, o, h3, h4⟩ := hs j E (by omega) hI
      unfold whL
      rw [h1]
      show ∃ o, (if b = true then (body E1).bind _ else _) = some o ∧ Q o
      rw [if_pos (show b = true from h2), h3]
      cases o with
      | nx E' => exact ih m E' (by omega) (by omega) h4
      | ct E' => exact ih m E' (by omega) (by omega) h4
      | bk E' => exact ⟨_, rfl, h4⟩
      | rt v E' => exact ⟨_, rfl, h4⟩
  exact key k n E (Nat.le_refl _) hk h0
theorem setset {E : Env'} {i : Nat} {x y : B} : (E.set i x).set i y = E.set i y := by rw [List.set_set]
theorem lcL_id {b : Nat} : ∀ {ys : List PyData} {E : Env'}, E[b]? = some B.u → lcL [b] (τN b) gYes (fV b) ys E = some (ys, E)
  | [], E, h => rfl
  | y :: ys, E, h => by
    have hl : b < E.length := (List.getElem?_eq_some_iff.mp h).1
    have hw : wipeE (E.set b (B.v y)) [b] = E := by
      show ((E.set b (B.v y)).set b B.u) = E
      rw [List.set_set]
      refine List.ext_getElem? fun j => ?_
      by_cases q : b = j
      · subst q; rw [List.getElem?_set_self hl, h]
      · rw [List.getElem?_set_ne q]
    unfold lcL
    show ((fV b (setE E [(b, y)])).bind fun s => ((lcL [b] (τN b) gYes (fV b) ys (wipeE s.2 [b])).map fun t => (s.1 :: t.1, t.2))) = _
    have hv : fV b (setE E [(b, y)]) = some (y, E.set b (B.v y)) := by
      show fV b (E.set b (B.v y)) = _
      unfold fV
      rw [List.getElem?_set_self hl]
    rw [hv]
    show (lcL [b] (τN b) gYes (fV b) ys (wipeE (E.set b (B.v y)) [b])).map _ = _
    rw [hw, lcL_id h]
    rfl
/-- [y for d in x for y in f d] -/
theorem we_lc2I {a b : Nat} {fl fl1 : Lf} {E : Env'} {Q : List PyData → Env' → Prop} (h : PyData → List PyData)
    (k : we fl E fun ds E1 => isOwn E1[a]? = false ∧ isOwn E1[b]? = false ∧ a ≠ b ∧ a < E1.length ∧ b < E1.length ∧ (∀ d ∈ ds, we fl1 ((wipeE E1 [a, b]).set a (B.v d)) fun ys E2 => ys = h d ∧ E2 = (wipeE E1 [a, b]).set a (B.v d)) ∧ (ds.flatMap h).length ≤ 16777216 ∧ Q (ds.flatMap h) (backE E1 (wipeE E1 [a, b]) [a, b])) :
    we (fLc2 [a, b] [b] fl (τN a) fl1 (τN b) gYes (fV b)) E Q := by
  obtain ⟨⟨ds, E1⟩, hl, ho1, ho2, hab, ha, hb, hs, hz, hq⟩ := k
  simp only at ho1 ho2 ha hb hs hz hq
  have W : wipeE E1 [a, b] = (E1.set b B.u).set a B.u := rfl
  have Wb : (wipeE E1 [a, b])[b]? = some B.u := by
    rw [W, List.getElem?_set_ne hab, List.getElem?_set_self hb]
  have key : ∀ ds : List PyData, (∀ d ∈ ds, we fl1 ((wipeE E1 [a, b]).set a (B.v d)) fun ys E2 => ys = h d ∧ E2 = (wipeE E1 [a, b]).set a (B.v d)) → lcL2 [a, b] [b] (τN a) fl1 (τN b) gYes (fV b) ds (wipeE E1 [a, b]) = some (ds.flatMap h, wipeE E1 [a, b]) := by
    intro ds
    induction ds with
    | nil => intro _; rfl
    | cons d ds ih =>
      intro hs
      obtain ⟨⟨ys, E2⟩, h1, h2, h3⟩ := hs d List.mem_cons_self
      simp only at h2 h3
      subst h2 h3
      unfold lcL2
      show (fl1 ((wipeE E1 [a, b]).set a (B.v d))).bind _ = _
      rw [h1]
      have hb2 : ((wipeE E1 [a, b]).set a (B.v d))[b]? = some B.u := by rw [List.getElem?_set_ne hab, Wb]
      show (if ([b].any fun i => isOwn ((wipeE E1 [a, b]).set a (B.v d))[i]?) = true then none else _) = _
      have e1 : ([b].any fun i => isOwn ((wipeE E1 [a, b]).set a (B.v d))[i]?) = false := by
        rw [List.any_cons, List.any_nil, hb2]; rfl
      rw [if_neg (by rw [e1]; decide)]
      have hw1 : wipeE ((wipeE E1 [a, b]).set a (B.v d)) [b] = (wipeE E1 [a, b]).set a (B.v d) := by
        show ((wipeE E1 [a, b]).set a (B.v d)).set b B.u = _
        refine List.ext_getElem? fun j => ?_
        by_cases q : b = j
        · subst q
          rw [List.getElem?_set_self (by rw [List.length_set, W, List.length_set, List.length_set]; exact hb), hb2]
        · rw [List.getElem?_set_ne q]
      show (lcL [b] (τN b) gYes (fV b) (h d) (wipeE ((wipeE E1 [a, b]).set a (B.v d)) [b])).bind _ = _
      rw [hw1, lcL_id hb2]
      have hw2 : wipeE ((wipeE E1 [a, b]).set a (B.v d)) [a, b] = wipeE E1 [a, b] := by
        show (((wipeE E1 [a, b]).set a (B.v d)).set b B.u).set a B.u = _
        rw [List.set_comm _ _ (Ne.symm hab), List.set_set]
        rw [W, List.set_set, List.set_comm _ _ hab, List.set_set]
      show (lcL2 [a, b] [b] (τN a) fl1 (τN b) gYes (fV b) ds (wipeE ((wipeE E1 [a, b]).set a (B.v d)) [a, b])).map _ = _
      rw [hw2, ih fun d hd => hs d (List.mem_cons_of_mem _ hd)]
      rw [List.flatMap_cons]
      rfl
  refine ⟨(ds.flatMap h, backE E1 (wipeE E1 [a, b]) [a, b]), ?_, hq⟩
  unfold fLc2
  rw [hl]
  show (if ([a, b].any fun i => isOwn E1[i]?) = true then none else _) = _
  have e1 : ([a, b].any fun i => isOwn E1[i]?) = false := by
    rw [List.any_cons, List.any_cons, List.any_nil, ho1, ho2]; rfl
  rw [if_neg (by rw [e1]; decide)]
  show ((lcL2 [a, b] [b] (τN a) fl1 (τN b) gYes (fV b) ds (wipeE E1 [a, b])).bind _) = _
  rw [key ds hs]
  have hz' : (ds.flatMap h).length ≤ sizeLine := hz
  show (if (ds.flatMap h).length ≤ sizeLine then some (ds.flatMap h, backE E1 (wipeE E1 [a, b]) [a, b]) else none) = _
  rw [if_pos hz']
end
def kW2 := And.intro @ws_star <| And.intro @ws_starO <| And.intro @ws_ext <| And.intro @ws_frz <| And.intro @ws_never <| And.intro @we_lIf <| And.intro @ws_pop <| And.intro @we_fFmt <| And.intro @we_fFstr <| And.intro @wj_cons <| @wj_nil
def kP2 := And.intro @k_ht_t <| And.intro @k_ht_l <| And.intro @k_seqD_l <| And.intro @k_seqD_t <| And.intro @k_pop1 <| And.intro @k_fmt_s <| And.intro @wj1_s <| And.intro @k_itQ_l <| And.intro @k_itQ_t <| And.intro @k_itZM <| And.intro @k_addI_ii <| And.intro @k_addI_tt <| And.intro @k_neg_i <| And.intro @k_str_s <| And.intro @k_neL_nil <| @k_neL_nil0
end DL

namespace DL
open PySem PySem.Spec PyProof.Rows L2
/-! ### loops over known lists, turn by turn -/
section
def wfl (τ : Tf) (body : Sf) (ds : List PyData) (E : Env') (Q : O → Prop) (_t : Tg Q := ⟨⟩) (_u : Tg body := ⟨⟩) : Prop := ∃ o, forL τ body ds E = some o ∧ Q o
def wfk (τ : Tf) (body : Sf) (ds : List PyData) (Q : O → Prop) : O → Prop
  | .nx E => wfl τ body ds E Q
  | .ct E => wfl τ body ds E Q
  | .bk E => Q (.nx E)
  | .rt v E => Q (.rt v E)
theorem ws_forC (fl : Lf) (τ : Tf) (body : Sf) (E : Env') (Q : O → Prop) : ws (sFor fl τ body) E Q = we fl E fun ds E1 => wfl τ body ds E1 Q := by
  unfold ws we sFor wfl
  cases h : fl E with
  | none => simp
  | some r => simp
theorem wfl_nil (τ : Tf) (body : Sf) (E : Env') (Q : O → Prop) : wfl τ body [] E Q = Q (.nx E) := by simp [wfl, forL]
theorem wfl_cons (τ : Tf) (body : Sf) (d : PyData) (ds : List PyData) (E : Env') (Q : O → Prop) : wfl τ body (d :: ds) E Q = wo (τ d) fun as => ws body (setE E as) (wfk τ body ds Q) := by
  unfold wfl forL wo ws
  cases h : τ d with
  | none => simp
  | some as =>
    cases h2 : body (setE E as) with
    | none => simp [h2]
    | some o => cases o <;> simp [h2, wfk, wfl]
theorem wfk_nx (τ : Tf) (body : Sf) (ds : List PyData) (Q : O → Prop) (E : Env') : wfk τ body ds Q (.nx E) = wfl τ body ds E Q := rfl
theorem wfk_ct (τ : Tf) (body : Sf) (ds : List PyData) (Q : O → Prop) (E : Env') : wfk τ body ds Q (.ct E) = wfl τ body ds E Q := rfl
theorem wfk_bk (τ : Tf) (body : Sf) (ds : List PyData) (Q : O → Prop) (E : Env') : wfk τ body ds Q (.bk E) = Q (.nx E) := rfl
theorem wfk_rt (τ : Tf) (body : Sf) (ds : List PyData) (Q : O → Prop) (v : PyData) (E : Env') : wfk τ body ds Q (.rt v E) = Q (.rt v E) := rfl
def wlc (vs : List Nat) (τ : Tf) (gt : Ev Bool) (fe : Ef) (ds : List PyData) (E : Env') (Q : List PyData → Env' → Prop) (_t : Tg Q := ⟨⟩) (_u : Tg fe := ⟨⟩) (_w : Tg gt := ⟨⟩) : Prop := ∃ r, lcL vs τ gt fe ds E = some r ∧ Q r.1 r.2
theorem wlc_o (vs : List Nat) (τ : Tf) (gt : Ev Bool) (fe : Ef) (ds : List PyData) (E : Env') (Q : List PyData → Env' → Prop) : wlc vs τ gt fe ds E Q = wo0 (lcL vs τ gt fe ds E) fun r => Q r.1 r.2 := rfl
theorem we_lcC (vs : List Nat) (fl : Lf) (τ : Tf) (gt : Ev Bool) (fe : Ef) (E : Env') (Q : List PyData → Env' → Prop) : we (fLc vs fl τ gt fe) E Q = we fl E fun ds E1 => wif (vs.any fun i => isOwn E1[i]?) False (wlc vs τ gt fe ds (wipeE E1 vs) fun xs E2 => Q xs (backE E1 E2 vs)) := by
  simp only [we_o, wo_0, wif_0, wlc_o, fLc, wo0_bind, wo0_ifb, wo0_map, wo0_none]
theorem wlc_nil (vs : List Nat) (τ : Tf) (gt : Ev Bool) (fe : Ef) (E : Env') (Q : List PyData → Env' → Prop) : wlc vs τ gt fe [] E Q = Q [] E := by simp [wlc, lcL]
theorem wlc_cons (vs : List Nat) (τ : Tf) (gt : Ev Bool) (fe : Ef) (d : PyData) (ds : List PyData) (E : Env') (Q : List PyData → Env' → Prop) : wlc vs τ gt fe (d :: ds) E Q = wo (τ d) fun as => we gt (setE E as) fun b E1 => wif b (we fe E1 fun x E2 => wlc vs τ gt fe ds (wipeE E2 vs) fun xs E3 => Q (x :: xs) E3) (wlc vs τ gt fe ds (wipeE E1 vs) Q) := by
  simp only [we_o, wo_0, wif_0, wlc_o, lcL, wo0_bind, wo0_ifb, wo0_map, wo0_none]
theorem k_itR1 : itR1 [.int 1] = some [.int 0] := rfl
theorem k_itR2 : itR1 [.int 2] = some [.int 0, .int 1] := rfl
theorem k_itR0 : itR1 [.int 0] = some [] := rfl
theorem k_zw_c (f : PyData → PyData → PyData) (x y : PyData) (xs ys : List PyData) : List.zipWith f (x :: xs) (y :: ys) = f x y :: List.zipWith f xs ys := rfl
theorem k_zw_n (f : PyData → PyData → PyData) (ys : List PyData) : List.zipWith f [] ys = [] := rfl
/-- a for walk over what is known only by a rule: done, left -/
theorem wfl_D {τ : Tf} {body : Sf} {ds : List PyData} {E : Env'} {Q : O → Prop} (I : List PyData → List PyData → Env' → Prop) (h0 : I [] ds E)
    (hs : ∀ l d r E, ds = l ++ d :: r → I l (d :: r) E → ∃ as, τ d = some as ∧ ws body (setE E as) fun o => match o with | .nx E' => I (l ++ [d]) r E' | .ct E' => I (l ++ [d]) r E' | .bk E' => Q (.nx E') | .rt v E' => Q (.rt v E')) (hq : ∀ E, I ds [] E → Q (.nx E)) : wfl τ body ds E Q := by
  have key : ∀ (r l : List PyData) (E1 : Env'), ds = l ++ r → I l r E1 → ∃ o, forL τ body r E1 = some o ∧ Q o := by
    intro r
    induction r with
    | nil => exact fun l E1 e h => ⟨_, rfl, hq _ (by rw [show ds = l by rw [e, List.append_nil]]; exact h)⟩
    | cons d r ih =>
      intro l E1 e h
      obtain ⟨as, h1, o, h2, h3⟩ := hs l d r E1 e h
      unfold forL
      rw [h1]
      show ∃ o, (body (setE E1 as)).bind _ = some o ∧ Q o
      rw [h2]
      cases o with
      | nx E' => exact ih (l ++ [d]) E' (by rw [e]; simp) h3
      | ct E' => exact ih (l ++ [d]) E' (by rw [e]; simp) h3
      | bk E' => exact ⟨_, rfl, h3⟩
      | rt v E' => exact ⟨_, rfl, h3⟩
  exact key ds [] E rfl h0
end
theorem dle {a b : Nat} (h : a ≤ b) : decide (a ≤ b) = true := decide_eq_true h
theorem dlt {a b : Nat} (h : a < b) : decide (a < b) = true := decide_eq_true h
def kC := And.intro @ws_forC <| And.intro @we_lcC <| And.intro @wfl_cons <| And.intro @wfl_nil <| And.intro @wlc_cons <| @wlc_nil
def kC2 := And.intro @wfk_nx <| And.intro @wfk_ct <| And.intro @wfk_bk <| And.intro @wfk_rt <| And.intro @k_itR0 <| And.intro @k_itR1 <| And.intro @k_itR2 <| And.intro @k_zw_c <| @k_zw_n
end DL

open PySem PySem.Spec PyProof.Rows L2
namespace DL
/-! ### enumerate of a tuple -/
theorem itT_ext {h h' : Heap} {q it l : Addr} {k : Nat} (hi : h.IsTupleIter it l k) (x : Heap.ExtBut q h h') (ne : it ≠ q) : h'.IsTupleIter it l k := Heap.IsTupleIter.at hi fun o e => x it o ne e
theorem enumT_next_item {prog : Program} {w : World} {A : Around} {E : Value → Shared → Prop} {s : Shared} {e it l : Addr} {i : Nat} {items : Array Value} {x old : Value} {Q : Value → Shared → Prop} (he : IsEnum s.heap e it (i : Int) old) (hit : s.heap.IsTupleIter it l i) (hl : s.heap.IsTuple l items) (hx : items[i]? = some x) (hne : e ≠ it)
    (hQ : ∀ h' : Heap, IsEnumOut h' e it ((i : Int) + 1) x s.heap.objs.size → h'.IsTupleIter it l (i + 1) → h'.get? s.heap.objs.size = some { cls := .type "tuple", data := .seq #[.int i s.toks, x] } → h'.objs.size = s.heap.objs.size + 1 →
      (∀ (b : Addr) (o : Obj), b ≠ e → b ≠ it → s.heap.get? b = some o → h'.get? b = some o) → Q (.ref s.heap.objs.size) { heap := h', gens := s.gens, drawn := s.drawn, toks := s.toks + 1, os := s.os }) :
    wpAny (model prog w) A (Builtin.«enumerate.__next__» { pos := [.ref e] }) (fun fin s' => ∃ v, fin = Fin.done (Flow.ret v) ∧ Q v s') E s := by
  obtain ⟨hp, g, d, tk, os⟩ := s
  unfold Builtin.«enumerate.__next__»
  refine wpAny_bind (wpAny_pure (a := (Value.ref e, [])) ?_)
  refine id (wpAny_bind (wpAny_field he rfl rfl ?_))
  refine wpAny_bind (RZ.nextOf_tuple_item hit hl hx fun h₁ hit₁ hs₁ => ?_)
  have he₁ := (hs₁.2 e hne).trans he
  refine id (wpAny_bind (wpAny_field he₁ rfl rfl ?_))
  refine id (wpAny_bind (wpAny_field he₁ rfl rfl ?_))
  refine id (wpAny_bind (wpAny_mkInt ?_))
  refine id (wpAny_bind (wpAny_setField_rec he₁ (by simp) fun h₂ he₂ hs₂ => ?_))
  refine id (wpAny_bind (wpAny_setField_rec he₂ (by simp) fun h₃ he₃ hs₃ => ?_))
  refine id (wpAny_bind (wpAny_newTuple ?_ (by show 2 ≤ sizeLine; decide)))
  have he₄ := Heap.get?_push_of_some { cls := .type "tuple", data := .seq #[.int (i : Int) tk, x] } he₃
  have hsz : h₃.objs.size = hp.objs.size := by rw [hs₃.1, hs₂.1, hs₁.1]
  have hel := Heap.lt_size he
  have ht₄ : (h₃.push { cls := .type "tuple", data := .seq #[.int (i : Int) tk, x] }).get? hp.objs.size = some { cls := .type "tuple", data := .seq #[.int (i : Int) tk, x] } := by
    rw [← hsz]; exact Heap.get?_push_size h₃ rfl
  have hz₄ : (h₃.push { cls := .type "tuple", data := .seq #[.int (i : Int) tk, x] }).objs.size = hp.objs.size + 1 := by rw [Heap.size_push, hsz]
  have hk₄ : ∀ (b : Addr) (o : Obj), b ≠ e → b ≠ it → hp.get? b = some o → (h₃.push { cls := .type "tuple", data := .seq #[.int (i : Int) tk, x] }).get? b = some o := fun b o hbe hbi hb =>
    Heap.get?_push_of_some _ (Heap.SameBut.extBut hs₃ b o hbe (Heap.SameBut.extBut hs₂ b o hbe (Heap.SameBut.extBut hs₁ b o hbi hb)))
  have hit₄ : (h₃.push { cls := .type "tuple", data := .seq #[.int (i : Int) tk, x] }).IsTupleIter it l (i + 1) :=
    Heap.IsTupleIter.at (itT_ext (itT_ext hit₁ (Heap.SameBut.extBut hs₂) hne.symm) (Heap.SameBut.extBut hs₃) hne.symm) fun o q => Heap.get?_push_of_some _ q
  show wpAny (model prog w) A _ _ E { heap := h₃.push { cls := .type "tuple", data := .seq #[.int (i : Int) tk, x] }, gens := g, drawn := d, toks := tk + 1, os := os }
  rw [hsz]
  generalize (h₃.push { cls := .type "tuple", data := .seq #[.int (i : Int) tk, x] }) = h₄ at he₄ ht₄ hz₄ hk₄ hit₄ ⊢
  refine wpAny_bind (id (wpAny_bind (wpAny_field he₄ rfl rfl (wpAny_pure ?_))))
  simp only [if_true]
  refine wpAny_bind (wpAny_rule ?_)
  refine wpAny_bind (wpAny_field he₄ rfl rfl ?_)
  refine wpAny_bind (wpAny_setField_rec he₄ (by simp) fun h₅ he₅ hs₅ => ?_)
  refine id (wpAny_bind ?_)
  unfold Builtin.SmallTypes.ownedTupleHandOut
  refine id (wpAny_bind (wpAny_setField_rec he₅ (by simp) fun h₆ he₆ hs₆ => ?_))
  refine wpAny_setField_rec he₆ (by simp) fun h₇ he₇ hs₇ => ?_
  refine wpAny_bind (wpAny_letGo (wpAny_pure ⟨_, rfl, ?_⟩))
  have hlt : hp.objs.size ≠ e := Nat.ne_of_gt hel
  refine hQ h₇ he₇ (itT_ext (itT_ext (itT_ext hit₄ (Heap.SameBut.extBut hs₅) hne.symm) (Heap.SameBut.extBut hs₆) hne.symm) (Heap.SameBut.extBut hs₇) hne.symm) ?_ ?_ ?_
  · exact Heap.SameBut.extBut hs₇ _ _ hlt (Heap.SameBut.extBut hs₆ _ _ hlt (Heap.SameBut.extBut hs₅ _ _ hlt ht₄))
  · rw [hs₇.1, hs₆.1, hs₅.1, hz₄]
  · exact fun b o hbe hbi hb => Heap.SameBut.extBut hs₇ b o hbe (Heap.SameBut.extBut hs₆ b o hbe (Heap.SameBut.extBut hs₅ b o hbe (hk₄ b o hbe hbi hb)))
theorem pyNext_enumT_item {prog : Program} {w : World} {A : Around} {E : Value → Shared → Prop} {s : Shared} {e it l : Addr} {i : Nat} {items : Array Value} {x old : Value} {Q : Option Value → Shared → Prop} (he : IsEnum s.heap e it (i : Int) old) (hit : s.heap.IsTupleIter it l i) (hl : s.heap.IsTuple l items) (hx : items[i]? = some x) (hne : e ≠ it)
    (hQ : ∀ h' : Heap, IsEnumOut h' e it ((i : Int) + 1) x s.heap.objs.size → h'.IsTupleIter it l (i + 1) → h'.get? s.heap.objs.size = some { cls := .type "tuple", data := .seq #[.int i s.toks, x] } → h'.objs.size = s.heap.objs.size + 1 →
      (∀ (b : Addr) (o : Obj), b ≠ e → b ≠ it → s.heap.get? b = some o → h'.get? b = some o) → Q (some (.ref s.heap.objs.size)) { heap := h', gens := s.gens, drawn := s.drawn, toks := s.toks + 1, os := s.os }) :
    wpAny (model prog w) A (pyNext (.ref e)) Q E s :=
  have hT : s.TypeIs (.ref e) "enumerate" := ⟨_, he, rfl⟩
  id (wpAny_bind (wpAny_attempt (wpAny_callSpecial?_slot hT F.slot_enumerate_next (wpAny_call_entry F.slot_enumerate_next hT F.entry_enumerate_next
    (enumT_next_item he hit hl hx hne fun h' a b c d k => wpAny_pure (hQ h' a b c d k)) (F.args_enumerate_next_1 (.ref e))))))
theorem enumT_next_end {prog : Program} {w : World} {A : Around} {E : Value → Shared → Prop} {s : Shared} {e it l : Addr} {i : Nat} {items : Array Value} {old : Value} {Q : PySem.Fin → Shared → Prop} (hh : A.handled = none) (he : IsEnum s.heap e it (i : Int) old) (hit : s.heap.IsTupleIter it l i) (hl : s.heap.IsTuple l items) (hx : items[i]? = none)
    (hE : ∀ (h' : Heap) (x : Addr), Heap.ExtBut it s.heap h' → (∃ o, h'.get? x = some o ∧ o.cls = Value.type "StopIteration") → E (.ref x) { heap := h', gens := s.gens, drawn := s.drawn, toks := s.toks, os := s.os }) :
    wpAny (model prog w) A (Builtin.«enumerate.__next__» { pos := [.ref e] }) Q E s := by
  unfold Builtin.«enumerate.__next__»
  refine wpAny_bind (wpAny_pure (a := (Value.ref e, [])) ?_)
  refine id (wpAny_bind (wpAny_field he rfl rfl ?_))
  exact wpAny_bind (RZ.nextOf_tuple_end hh hit hl hx fun h' x a b => hE h' x a b)
theorem pyNext_enumT_end {prog : Program} {w : World} {A : Around} {E : Value → Shared → Prop} {s : Shared} {e it l : Addr} {i : Nat} {items : Array Value} {old : Value} {Q : Option Value → Shared → Prop} (hh : A.handled = none) (he : IsEnum s.heap e it (i : Int) old) (hit : s.heap.IsTupleIter it l i) (hl : s.heap.IsTuple l items) (hx : items[i]? = none)
    (hQ : ∀ h' : Heap, Heap.ExtBut it s.heap h' → Q none { heap := h', gens := s.gens, drawn := s.drawn, toks := s.toks, os := s.os }) :
    wpAny (model prog w) A (pyNext (.ref e)) Q E s :=
  have hT : s.TypeIs (.ref e) "enumerate" := ⟨_, he, rfl⟩
  id (wpAny_bind (wpAny_attempt (wpAny_callSpecial?_slot hT F.slot_enumerate_next (wpAny_call_entry F.slot_enumerate_next hT F.entry_enumerate_next
    (enumT_next_end hh he hit hl hx fun h' x he' ⟨o, ho, hc⟩ => wpAny_bind (wpAny_isInstance ⟨o, ho, hc⟩ isSubtype_stop (wpAny_pure (hQ h' he')))) (F.args_enumerate_next_1 (.ref e))))))
theorem meets_enumT_new (l : Addr) (items : Array Value) : Meets (Builtin.«enumerate.__new__» { pos := [.type "enumerate", .ref l] }) fun _ R s => s.heap.IsTuple l items ∧
    R (Except.ok (Flow.ret (.ref (s.heap.push { cls := .type "tuple_iterator", data := .fields #[.ref l, .int 0 0] }).objs.size))) { heap := (s.heap.push { cls := .type "tuple_iterator", data := .fields #[.ref l, .int 0 0] }).push { cls := .type "enumerate", data := .fields #[.none, .bool false, .ref s.heap.objs.size, rawInt 0, .none, .none] }, gens := s.gens, drawn := s.drawn, toks := s.toks, os := s.os } :=
  Meets.of_wp fun prog w A R s h => by
    obtain ⟨hp, g, d, tk, os⟩ := s
    obtain ⟨hl, h⟩ := h
    refine id (wpAny_bind (id (wpAny_bind (id (wpAny_pure (wpAny_ite_false rfl (wpAny_bind (wpAny_of_eq sub_enumerate (wpAny_ite_false rfl (wpAny_pure (wpAny_ite_true rfl (wpAny_bind (id (wpAny_bind (wpAny_stack_any fun st => wpAny_pure ?_)))))))))))))))
    split
    · rename_i c _ _ _ _ _
      generalize (c == Value.type "enumerate") = bb
      cases bb
      · refine id (wpAny_ite_false rfl ?_)
        refine wpAny_bind (id (wpAny_pure (a := (Value.ref l, none)) ?_))
        refine id (wpAny_bind (wpAny_pyIter_tuple hl ?_))
        refine wpAny_bind ?_
        unfold Builtin.SmallTypes.newRecord
        refine id (wpAny_newObj_type (wpAny_pure ⟨_, rfl, h⟩) ?_)
        show 6 ≤ sizeLine + 2
        decide
      · refine id (wpAny_ite_true rfl ?_)
        refine wpAny_bind (id (wpAny_pure (a := (Value.ref l, none)) ?_))
        refine id (wpAny_bind (wpAny_pyIter_tuple hl ?_))
        refine wpAny_bind ?_
        unfold Builtin.SmallTypes.newRecord
        refine id (wpAny_newObj_type (wpAny_pure ⟨_, rfl, h⟩) ?_)
        show 6 ≤ sizeLine + 2
        decide
    · refine id (wpAny_ite_false rfl ?_)
      refine wpAny_bind (id (wpAny_pure (a := (Value.ref l, none)) ?_))
      refine id (wpAny_bind (wpAny_pyIter_tuple hl ?_))
      refine wpAny_bind ?_
      unfold Builtin.SmallTypes.newRecord
      refine id (wpAny_newObj_type (wpAny_pure ⟨_, rfl, h⟩) ?_)
      show 6 ≤ sizeLine + 2
      decide
theorem call_enumT {prog : Program} {w : World} {A : Around} {E : Value → Shared → Prop} {s : Shared} {l : Addr} {items : Array Value} {Q : Value → Shared → Prop} (hl : s.heap.IsTuple l items)
    (h : ∀ h' : Heap, IsEnum h' (s.heap.objs.size + 1) s.heap.objs.size 0 .none → h'.IsTupleIter s.heap.objs.size l 0 → h'.objs.size = s.heap.objs.size + 2 → (∀ (b : Addr) (o : Obj), s.heap.get? b = some o → h'.get? b = some o) → Q (.ref (s.heap.objs.size + 1)) { heap := h', gens := s.gens, drawn := s.drawn, toks := s.toks, os := s.os }) :
    wpAny (model prog w) A (call (.type "enumerate") [.ref l]) Q E s := by
  refine callType_new F.called_enumerate (by decide) (F.typeCall_enumerate_1 _) (F.newCall_enumerate_1 _) (fun obj => F.args_object_init_2 obj _) F.entry_enumerate_new (meets_enumT_new l items) ⟨hl, ?_⟩
  have hz := Heap.size_push s.heap { cls := .type "tuple_iterator", data := .fields #[.ref l, .int 0 0] }
  have he := Heap.get?_push_size (s.heap.push { cls := .type "tuple_iterator", data := .fields #[.ref l, .int 0 0] }) (o := { cls := .type "enumerate", data := .fields #[.none, .bool false, .ref s.heap.objs.size, rawInt 0, .none, .none] }) rfl
  rw [hz] at he
  show _ ∧ _
  rw [hz]
  refine ⟨⟨_, he, rfl⟩, h _ he ⟨_, Heap.get?_push_of_some _ (Heap.get?_push_size s.heap rfl), rfl, rfl⟩ ?_ fun b o x => Heap.get?_push_of_some _ (Heap.get?_push_of_some _ x)⟩
  rw [Heap.size_push, hz]
def IteT (K : PySem.W.Frag) (a : Addr) : It where
  go := fun i H => ∃ xs x, SqT K H a xs ∧ xs[i]? = some x
  yld := fun i H v H' => ∃ T x, v = .ref T ∧ H T = none ∧ H' = upd H T (.tup [.int (i : Nat), x]) ∧ ∀ xs, SqT K H a xs → xs[i]? = some x
  stop := fun i H => ∃ xs, SqT K H a xs ∧ xs.length ≤ i
theorem turn_enumT {P : Program} {w : World} {K : PySem.W.Frag} {elts : List Expr} {kk : Nat} {tpos : Pos} (a e it : Addr) :
    Turn P w K (.Tuple elts kk tpos) (IteT K a) [e, it] e fun i h => (∃ old, IsEnum h e it (i : Nat) old) ∧ h.IsTupleIter it a i ∧ e ≠ it where
  mem := List.mem_cons_self
  obj := fun i h st b hb => by
    obtain ⟨⟨old, he⟩, ⟨o, ho, _, hd⟩, _⟩ := st
    simp only [List.mem_cons, List.not_mem_nil, or_false] at hb
    rcases hb with rfl | rfl
    · exact ⟨_, he, fun v q => nomatch q⟩
    · exact ⟨_, ho, fun v q => by rw [hd] at q; cases q⟩
  keep := fun i h h' st k => by
    obtain ⟨⟨old, he⟩, hi, hne⟩ := st
    exact ⟨⟨old, k e (by simp) _ he⟩, Heap.IsTupleIter.at hi fun o q => k it (by simp) o q, hne⟩
  item := fun X hP hw hK hc i pins s σ H E I hf st hg => by
    subst hP hw hK
    obtain ⟨⟨old, he⟩, hit, hne⟩ := st
    obtain ⟨xs, x, hq, hx⟩ := hg
    obtain ⟨its, rv, p, _⟩ := I.tuple hq
    obtain ⟨u, hu, ru⟩ := rv.get hx
    have hel := Heap.lt_size he
    have hil : it < s.heap.objs.size := by obtain ⟨o, q, _⟩ := hit; exact Heap.lt_size q
    refine pyNext_enumT_item he hit p (by simpa using hu) hne fun h' ho hit' hT hsz hk => ?_
    refine ⟨.ref s.heap.objs.size, rfl, wpAny_letOwnedTupleGo_enum ho fun h'' he' sb => ?_⟩
    have hT2 := (sb.2 s.heap.objs.size (Nat.ne_of_gt hel)).trans hT
    have new : ObjOk X.prog X.w (upd H s.heap.objs.size (HO.tup [.int (i : Nat), x])) h'' s.heap.objs.size (HO.tup [.int (i : Nat), x]) := ⟨by show 2 ≤ sizeLine; decide, [.int (i : Nat) s.toks, u], .cons ⟨s.toks, rfl⟩ (.cons ru .nil), _, hT2, rfl, 0, rfl⟩
    have I1 := Inv.turnedNew (t' := s.toks + 1) (ch := [e, it]) I (fun c o hb q => (sb.2 c fun q' => hb (by rw [q']; simp)).trans (hk c o (fun q' => hb (by rw [q']; simp)) (fun q' => hb (by rw [q']; simp)) q)) hf (Nat.le_refl _) new
    refine ⟨.ref s.heap.objs.size, upd H s.heap.objs.size (HO.tup [.int (i : Nat), x]), I1, rfl, ⟨s.heap.objs.size, x, rfl, HOk.fresh I.hok (Nat.le_refl _), rfl, fun ys hy => by rw [Inv.tuple_inj I hy hq]; exact hx⟩, ⟨⟨u, ?_⟩, Heap.IsTupleIter.at hit' fun o q => (sb.2 it hne.symm).trans q, hne⟩, fun c hcm => ?_⟩
    · have e1 : ((i + 1 : Nat) : Int) = (i : Int) + 1 := by omega
      rw [e1]; exact he'
    · have hlt : c < s.heap.objs.size := by
        simp only [List.mem_cons, List.not_mem_nil, or_false] at hcm
        rcases hcm with rfl | rfl
        · exact hel
        · exact hil
      rw [upd_ne (Nat.ne_of_lt hlt)]
      exact (hf c hcm).1
  done := fun X hP hw hK hc i pins s σ H E I hf st hg => by
    subst hP hw hK
    obtain ⟨⟨old, he⟩, hit, hne⟩ := st
    obtain ⟨xs, hq, hx⟩ := hg
    obtain ⟨its, rv, p, _⟩ := I.tuple hq
    have l1 := rv.length
    refine pyNext_enumT_end (I.ok.hd hc) he hit p (by rw [List.getElem?_toArray]; exact List.getElem?_eq_none (by omega)) fun h' eb => ⟨rfl, Inv.turnedL (ch := [e, it]) I (fun c o hb q => eb c o (fun q' => hb (by rw [q']; simp)) q) hf⟩
  self := fun A i s Q E st h => by
    obtain ⟨⟨old, he⟩, _⟩ := st
    exact wpAny_pyIter_enum he h
def iEnumT (K : PySem.W.Frag) (ta : TA) : TI := fun σ H R => ta σ H fun vs H1 => ∃ a xs, vs = [.ref a] ∧ SqT K H1 a xs ∧ R (IteT K a) H1
theorem pi_enumT {X : Cx} {e : Expr} {ta : TA} {p pos tpos : Pos} {elts : List Expr} {kk : Nat} (hg : Gl X "enumerate") (hm : X.mg "enumerate" = none) (ha : PA X [e] ta)
    (hs : starEach [e] X.env = [(false, eval e X.env)] := by rfl) : PI X (.Tuple elts kk tpos) (.Call (.Name "enumerate" p) [e] [] pos) (iEnumT X.K ta) where
  run := fun pins s σ H R I h => by
    refine Call_ (ld_blt I hg hm boot_enumerate (PyProof.Rows.callWith_type1 (thn (ha.run pos pins s σ H _ I h) ?_) hs rfl) (by decide) (by decide)) rfl
    rintro us s1 ⟨vs, H1, I1, r1, a, xs, rfl, hq, q⟩
    cases r1 with
    | cons r rr =>
    cases rr
    cases r
    obtain ⟨its, rv, p1, _⟩ := I1.tuple hq
    refine call_enumT p1 fun h' he hit hsz hk => wpAny_pyIter_enum he ?_
    have I2 := I1.kept (t' := s1.toks) hk
    refine ⟨s1.heap.objs.size + 1, [s1.heap.objs.size + 1, s1.heap.objs.size], fun i h => (∃ old, IsEnum h (s1.heap.objs.size + 1) s1.heap.objs.size (i : Nat) old) ∧ h.IsTupleIter s1.heap.objs.size a i ∧ s1.heap.objs.size + 1 ≠ s1.heap.objs.size, IteT X.K a, H1, rfl, I2, turn_enumT a _ _, ⟨⟨.none, he⟩, hit, by omega⟩, fun c hcm => ?_, q⟩
    have hle : s1.heap.objs.size ≤ c := by
      simp only [List.mem_cons, List.not_mem_nil, or_false] at hcm
      rcases hcm with rfl | rfl <;> omega
    exact Inv.fpOk I1 hle (HOk.fresh I1.hok hle)
theorem walk_enumT {K : PySem.W.Frag} {a : Addr} {xs : List V} : Walk (IteT K a) xs.length (fun H => SqT K H a xs) (YPair (fun i => some (.int (i : Nat))) (fun i => xs[i]?)) := by
  refine ⟨fun i _ hi q => ⟨xs, xs[i], q, by simp [hi]⟩, fun _ q => ⟨xs, q, by omega⟩, fun i H v H' _ q y => ?_⟩
  obtain ⟨T, x, h1, h2, h3, h4⟩ := y
  exact ⟨T, _, x, h1, h2, h3, rfl, h4 xs q⟩
end DL

namespace DL
open PySem PySem.Spec PyProof.Rows L2
section
variable {X : Cx} {K : PySem.W.Frag} {io : List Nat} {fr : Af} {e : Expr} {elts : List Expr} {kk : Nat} {tpos pos : Pos}
/-- numbered from k on -/
def enF : Nat → List PyData → List PyData
  | _, [] => []
  | k, x :: xs => .tuple [.int (k : Nat), x] :: enF (k + 1) xs
theorem enF_len : ∀ (k : Nat) (xs : List PyData), (enF k xs).length = xs.length
  | _, [] => rfl
  | k, x :: xs => by rw [enF, List.length_cons, List.length_cons, enF_len]
theorem enF_get : ∀ (k : Nat) (xs : List PyData) (i : Nat), (enF k xs)[i]? = xs[i]?.map fun x => .tuple [.int ((k + i : Nat) : Int), x]
  | _, [], i => by simp [enF]
  | k, x :: xs, 0 => by simp [enF]
  | k, x :: xs, i + 1 => by
    rw [enF, List.getElem?_cons_succ, List.getElem?_cons_succ, enF_get, show k + 1 + i = k + (i + 1) by omega]
theorem its_enum {H : Hp} {A : Addr → Prop} {xs : List PyData} {vs : List V} {G : Hp → Prop} (hz : vs.length ≤ sizeLine) (r1 : RepL K H A xs vs) (hG : ∀ H2 A2, Go H A H2 A2 → G H2) :
    Its' K H A (enF 0 xs) G (YPair (fun i => some (.int (i : Nat))) (fun i => vs[i]?)) := by
  refine ⟨by rw [enF_len]; have := r1.length; omega, fun H2 A2 g hA => ⟨hG H2 A2 g, fun i x H3 d hd y => ?_⟩⟩
  obtain ⟨T, v, u, e1, e2, e3, e4, e5⟩ := y
  subst e1 e3
  rw [enF_get] at hd
  cases q1 : xs[i]? with
  | none => rw [q1] at hd; cases hd
  | some dx =>
    rw [q1] at hd
    cases hd
    obtain ⟨v', z1, z2⟩ := (g.repL _ _ r1).get q1
    have e4' : some (V.int (i : Nat)) = some v := e4
    have e5' : vs[i]? = some u := e5
    rw [e5'] at z1
    cases z1
    cases e4'
    have f := Frm.new (H := H2) (p := T) (o := .tup [.int (i : Nat), u]) e2
    have g2 : Go H2 A2 (upd H2 T (.tup [.int (i : Nat), u])) A2 := Go.frm0 f
    rw [Nat.zero_add]
    exact ⟨f, rep_tup (.inl ⟨fun z => hA T z e2, .inl upd_same⟩) (show 2 ≤ sizeLine by decide) (repL_cons rep_int (repL_cons (g2.rep _ _ z2) repL_nil))⟩
theorem repL_one {H : Hp} {A : Addr → Prop} {x : PyData} {vs : List V} (h : RepL K H A [x] vs) : ∃ v, vs = [v] ∧ RepD K H A x v := by
  unfold RepL at h
  obtain ⟨v, r, e, h1, h2⟩ := h
  unfold RepL at h2
  subst h2
  exact ⟨v, e, h1⟩
def itEnT : List PyData → Option (List PyData)
  | [.tuple xs] => some (enF 0 xs)
  | _ => none
def itEnL : List PyData → Option (List PyData)
  | [.list xs] => some (enF 0 xs)
  | _ => none
theorem di_enumT {p : Pos} (hg : Gl X "enumerate") (hm : X.mg "enumerate" = none) (ha : PA X [e] (aD X.K io fr)) (hs : starEach [e] X.env = [(false, eval e X.env)] := by rfl) :
    PI X (.Tuple elts kk tpos) (.Call (.Name "enumerate" p) [e] [] pos) (iD X.K io (fZ itEnT fr)) := (pi_enumT hg hm ha hs).imp fun σ H R w => by
  obtain ⟨Γ, ad, E, zs, E', ok, he, q⟩ := w
  obtain ⟨⟨gs, E1⟩, h1, h2⟩ := Option.bind_eq_some_iff.mp he
  obtain ⟨ds, h3, h4⟩ := Option.bind_eq_some_iff.mp h2
  obtain ⟨z, h5, h6⟩ := Option.map_eq_some_iff.mp h4
  cases h6
  refine ⟨Γ, ad, E, gs, E1, ok, h1, fun vs H1 fr1 ok1 sim1 r1 => ?_⟩
  have r := RepG.repL (onlyV_map h3) r1
  unfold itEnT at h5
  split at h5
  · cases h5
    obtain ⟨v, e1, ra⟩ := repL_one r
    obtain ⟨a, xs, e3, t, hz, r3⟩ := ra.tup
    subst e1 e3
    refine ⟨a, xs, rfl, t.sq, q _ _ _ _ H1 fr1 ok1 sim1 (walk_enumT (xs := xs)) (by rw [enF_len, r3.length]) ?_⟩
    rw [sim1.Ao]
    exact its_enum hz r3 fun H2 A2 g => (g.tup t).sq
  · cases h5
theorem di_enumL {p : Pos} (hg : Gl X "enumerate") (hm : X.mg "enumerate" = none) (ha : PA X [e] (aD X.K io fr)) (hs : starEach [e] X.env = [(false, eval e X.env)] := by rfl) :
    PI X (.Tuple elts kk tpos) (.Call (.Name "enumerate" p) [e] [] pos) (iD X.K io (fZ itEnL fr)) := (pi_enum hg hm ha hs).imp fun σ H R w => by
  obtain ⟨Γ, ad, E, zs, E', ok, he, q⟩ := w
  obtain ⟨⟨gs, E1⟩, h1, h2⟩ := Option.bind_eq_some_iff.mp he
  obtain ⟨ds, h3, h4⟩ := Option.bind_eq_some_iff.mp h2
  obtain ⟨z, h5, h6⟩ := Option.map_eq_some_iff.mp h4
  cases h6
  refine ⟨Γ, ad, E, gs, E1, ok, h1, fun vs H1 fr1 ok1 sim1 r1 => ?_⟩
  have r := RepG.repL (onlyV_map h3) r1
  unfold itEnL at h5
  split at h5
  · cases h5
    obtain ⟨v, e1, ra⟩ := repL_one r
    obtain ⟨a, xs, e3, t, hz, r3⟩ := ra.lst
    subst e1 e3
    refine ⟨a, xs, rfl, t.sq, q _ _ _ _ H1 fr1 ok1 sim1 (walk_enum (xs := xs)) (by rw [enF_len, r3.length]) ?_⟩
    rw [sim1.Ao]
    exact its_enum hz r3 fun H2 A2 g => (g.lst t).sq
  · cases h5
end
end DL

namespace DL
open PySem PySem.Spec PyProof.Rows L2
/-! ### lists within tuples within an own list, told on -/
abbrev Cell := Addr × Addr × Str × List Str
structure Nest (H : Hp) (a : Addr) (cs : List Cell) : Prop where
  ha : H a = some (.lst (cs.map fun c => V.ref c.1))
  ht : ∀ c ∈ cs, H c.1 = some (.tup [V.str c.2.2.1, V.ref c.2.1]) ∧ H c.2.1 = some (.lst (c.2.2.2.map V.str))
  nd : ∀ c ∈ cs, c.2.1 ≠ a
  np : cs.Pairwise fun c d => c.2.1 ≠ d.2.1
theorem Nest.frm {H H' : Hp} {a : Addr} {cs : List Cell} (n : Nest H a cs) (f : Frm F0 H H') : Nest H' a cs :=
  ⟨f.eq _ _ n.ha id, fun c hc => ⟨f.eq _ _ (n.ht c hc).1 id, f.eq _ _ (n.ht c hc).2 id⟩, n.nd, n.np⟩
theorem some_ne {H : Hp} {x y : Addr} {o : HO} (h : H x = some o) (h' : H y = none) : x ≠ y := fun e => by rw [e, h'] at h; cases h
theorem Nest.add {H : Hp} {a p q : Addr} {z : Str} {cs : List Cell} (n : Nest H a cs) (hq : H q = none) (hp : (upd H q (.lst [])) p = none) :
    Nest (upd (upd (upd H q (.lst [])) p (.tup [.str z, .ref q])) a (.lst ((cs.map fun c => V.ref c.1) ++ [.ref p]))) a (cs ++ [(p, q, z, [])]) := by
  have hpq : p ≠ q := fun e => by rw [e, upd_same] at hp; cases hp
  have hp' : H p = none := by rw [upd_ne hpq] at hp; exact hp
  have aq : a ≠ q := some_ne n.ha hq
  have ap : a ≠ p := some_ne n.ha hp'
  refine ⟨?_, fun c hc => ?_, fun c hc => ?_, ?_⟩
  · rw [upd_same, List.map_append]; rfl
  · rcases List.mem_append.mp hc with hc | hc
    · obtain ⟨h1, h2⟩ := n.ht c hc
      have ta : c.1 ≠ a := fun e => by rw [e, n.ha] at h1; cases h1
      refine ⟨?_, ?_⟩
      · rw [upd_ne ta, upd_ne (some_ne h1 hp'), upd_ne (some_ne h1 hq)]; exact h1
      · rw [upd_ne (n.nd c hc), upd_ne (some_ne h2 hp'), upd_ne (some_ne h2 hq)]; exact h2
    · rw [List.mem_singleton.mp hc]
      refine ⟨?_, ?_⟩
      · rw [upd_ne ap.symm, upd_same]
      · rw [upd_ne aq.symm, upd_ne hpq.symm, upd_same]; rfl
  · rcases List.mem_append.mp hc with hc | hc
    · exact n.nd c hc
    · rw [List.mem_singleton.mp hc]; exact aq.symm
  · refine List.pairwise_append.mpr ⟨n.np, List.pairwise_singleton _ _, fun c hc d hd => ?_⟩
    rw [List.mem_singleton.mp hd]
    exact some_ne (n.ht c hc).2 hq
theorem Nest.put {H : Hp} {a p q : Addr} {z x : Str} {ls : List Str} {cs : List Cell} (n : Nest H a (cs ++ [(p, q, z, ls)])) :
    Nest (upd H q (.lst (ls.map V.str ++ [.str x]))) a (cs ++ [(p, q, z, ls ++ [x])]) := by
  have hl : (p, q, z, ls) ∈ cs ++ [(p, q, z, ls)] := List.mem_append.mpr (.inr List.mem_cons_self)
  obtain ⟨t1, t2⟩ := n.ht _ hl
  have qa : q ≠ a := n.nd _ hl
  have pq : p ≠ q := fun e => by
    have t1' : H p = _ := t1
    rw [e] at t1'
    have t2' : H q = _ := t2
    rw [t1'] at t2'; cases t2'
  have pw := List.pairwise_append.mp n.np
  refine ⟨?_, fun c hc => ?_, fun c hc => ?_, ?_⟩
  · rw [upd_ne qa.symm]
    have := n.ha
    rw [List.map_append] at this ⊢
    exact this
  · rcases List.mem_append.mp hc with hc | hc
    · obtain ⟨h1, h2⟩ := n.ht c (List.mem_append.mpr (.inl hc))
      have c1 : c.1 ≠ q := fun e => by
        rw [e] at h1
        have t2' : H q = _ := t2
        rw [h1] at t2'; cases t2'
      have c2 : c.2.1 ≠ q := pw.2.2 c hc _ List.mem_cons_self
      exact ⟨by rw [upd_ne c1]; exact h1, by rw [upd_ne c2]; exact h2⟩
    · rw [List.mem_singleton.mp hc]
      refine ⟨by rw [upd_ne pq]; exact t1, ?_⟩
      rw [upd_same, List.map_append]; rfl
  · rcases List.mem_append.mp hc with hc | hc
    · exact n.nd c (List.mem_append.mpr (.inl hc))
    · rw [List.mem_singleton.mp hc]; exact qa
  · refine List.pairwise_append.mpr ⟨pw.1, List.pairwise_singleton _ _, fun c hc d hd => ?_⟩
    rw [List.mem_singleton.mp hd]
    exact pw.2.2 c hc (p, q, z, ls) List.mem_cons_self
/-! what is read beside: texts and truths alone -/
def Flat (σ : L2.St) (E : Env') : Prop := σ.length = E.length ∧ ∀ (i : Nat) (b : B), E[i]? = some b → b = B.u ∨ ∃ d v, b = B.v d ∧ σ[i]? = some (some v) ∧ ∀ (K : PySem.W.Frag) (H : Hp) (A : Addr → Prop), RepD K H A d v
section
variable {K : PySem.W.Frag} {σ : L2.St} {H : Hp} {E : Env'}
def Γ0 : Gm := ⟨fun _ => False, fun _ => False, fun _ => none⟩
theorem Flat.no (h : Flat σ E) {i : Nat} {m : M} (e : E[i]? = some (B.o m)) : False := by
  rcases h.2 i _ e with h | ⟨d, v, h, _⟩ <;> cases h
theorem Flat.ok (h : Flat σ E) (ad : Nat → Addr) : EOk K Γ0 [] ad σ H E where
  len := h.1
  w := fun a z => z
  oA := fun a z => z.elim
  hk := fun a z => absurd rfl z
  vl := fun i d e => by
    rcases h.2 i _ e with h | ⟨d', v, h, h1, h2⟩
    · cases h
    · cases h; exact ⟨v, h1, h2 _ _ _⟩
  ob := fun i m e => (h.no e).elim
  obi := fun i m e => (h.no e).elim
  obn := fun i m e => (h.no e).elim
  inj := fun i j m m' e => (h.no e).elim
theorem Flat.wo (h : Flat σ E) {ad : Nat → Addr} {a : Addr} (w : Wo Γ0 [] ad E a) : False := by
  rcases w with w | ⟨i, m, _, e, _⟩
  · exact w
  · exact h.no e
theorem Flat.frm (h : Flat σ E) {ad : Nat → Addr} {H H' : Hp} (f : Frm (Wo Γ0 [] ad E) H H') : Frm F0 H H' := ⟨fun a o e _ => f.eq a o e fun w => h.wo w, f.on⟩
theorem tD_flat {f : Ef} {Q : VK} {d : PyData} (h : Flat σ E) (he : f E = some (d, E)) (k : ∀ v H' A, Frm F0 H H' → RepD K H' A d v → Q v H') : tD K [] f σ H Q :=
  ⟨Γ0, fun i => (i : Nat), E, d, E, h.ok _, he, fun v H' fr _ _ r => k v H' _ (h.frm fr) r⟩
theorem cD_flat {g : Ev Bool} {Q : Bool → Hp → Prop} {c : Bool} (h : Flat σ E) (he : g E = some (c, E)) (k : ∀ H', Frm F0 H H' → Q c H') : cD K [] g σ H Q :=
  ⟨Γ0, fun i => (i : Nat), E, c, E, h.ok _, he, fun v H' fr _ _ r => by cases r; exact k H' (h.frm fr)⟩
/-! the lines of bodies told apart -/
abbrev Fnd := List (Str × List Str)
def fstep (st : Fnd × Option Bool) (line : Str) : Option (Fnd × Option Bool) :=
  if line.length ≤ 8000000 ∧ st.1.length < 8000000 ∧ st.1.all (fun p => decide (p.2.length < 8000000)) = true then
    match Txt.split line (" " : Str) with
    | [] => none
    | w :: ws => if w = ("body" : Str) then (match ws with
        | z :: _ => some (st.1 ++ [(z, [])], some false)
        | [] => none)
      else if w = ("gives" : Str) then some (st.1, some true)
      else match st.2 with
        | none => none
        | some false => some (st.1, some false)
        | some true => if line = ("else" : Str) ∨ line = ("end" : Str) then some st else (match st.1.reverse with
          | (z, ls) :: r => some (r.reverse ++ [(z, ls ++ [line])], some true)
          | [] => none)
  else none
def frun : List PyData → Fnd × Option Bool → Option Fnd
  | [], st => some st.1
  | .str l :: ds, st => (fstep st l).bind (frun ds)
  | _ :: _, _ => none
def encF (f : Fnd) : List PyData := f.map fun p => .tuple [.str p.1, .list (p.2.map .str)]
def fWd : Ef := f2 oIx (fB oSplit (aV (fV 2) (aV (fC (.str (" " : Str))) aNil))) (fC (.int 0))
def fNm : Ef := f2 oIx (fB oSplit (aV (fV 2) (aV (fC (.str (" " : Str))) aNil))) (fC (.int 1))
def gBd : Ev Bool := f1 asB (f2 oEq (fV 3) (fC (.str ("body" : Str))))
def gGv : Ev Bool := fOr (f1 asB (f2 oEq (fV 3) (fC (.str ("gives" : Str))))) (f1 (fun c => some (!c)) (f1 truD (fV 4)))
def fGv : Ef := f2 oEq (fV 3) (fC (.str ("gives" : Str)))
def gIn : Ev Bool := f1 asB (f2 oNotIn (fV 2) (fDisp .tuple (aV (fC (.str ("else" : Str))) (aV (fC (.str ("end" : Str))) aNil))))
def fM1 : Ef := f1 oNeg (fC (.int 1))
def tbF (K : PySem.W.Frag) : TS :=
  tSeq (tAsg (tD K [] fWd) (gName 3)) (tIfS (cD K [] gBd)
    (tSeq (tDrop (tBM K "list" rAppend (tVar 1) (tCons (tTup (tCons (tD K [] fNm) (tCons (tLst tNil) tNil))) tNil))) (tAsg (tD K [] (fC (.bool false))) (gName 4)))
    (tIfS (cD K [] gGv) (tAsg (tD K [] fGv) (gName 4))
      (tIfS (cD K [] gIn) (tDrop (tBM K "list" rAppend (tOp (rIx K) (tOp (rIx K) (tVar 1) (tD K [] fM1)) (tD K [] (fC (.int 1)))) (tCons (tD K [] (fV 2)) tNil))) tNext)))
theorem split_fine {x y : Str} {p : Str} (h1 : 1 ≤ y.length) (hp : p ∈ Txt.split x y) : p.length ≤ x.length ∧ (Txt.split x y).length ≤ x.length + 1 := by
  have h := PyProof.Rows.split_weight x y h1
  have : ∀ {l : List Str} {p : Str}, p ∈ l → p.length ≤ (l.map fun x => x.length).sum := by
    intro l
    induction l with
    | nil => intro p h; cases h
    | cons z l ih =>
      intro p h
      rw [List.map_cons, List.sum_cons]
      rcases List.mem_cons.mp h with rfl | h
      · omega
      · have := ih h; omega
  have h2 := this hp
  have h3 : 1 ≤ (Txt.split x y).length := by
    cases hs : Txt.split x y with
    | nil => rw [hs] at hp; cases hp
    | cons _ _ => simp
  omega
theorem split_d {line : Str} (h : line.length ≤ 8000000) : oSplit [.str line, .str (" " : Str)] = some (.list ((Txt.split line (" " : Str)).map .str)) := by
  have h3 : (Txt.split line (" " : Str)).length ≤ line.length + 1 := by
    have := PyProof.Rows.split_weight line (" " : Str) (by decide)
    omega
  have h4 : (Txt.split line (" " : Str)).all (fun y => decide (y.length ≤ sizeLine)) = true := List.all_eq_true.mpr fun y hy => decide_eq_true (by
    have := (split_fine (y := (" " : Str)) (by decide) hy).1
    show _ ≤ (16777216 : Nat)
    omega)
  simp only [oSplit]
  rw [if_pos ⟨rfl, show _ ≤ (16777216 : Nat) by omega, show _ ≤ (16777216 : Nat) by omega, h4⟩]
end
end DL

namespace DL
open PySem PySem.Spec PyProof.Rows L2
theorem of_we {α : Type} {f : Ev α} {E E' : Env'} {d : α} (h : we f E fun d' E1 => d' = d ∧ E1 = E') : f E = some (d, E') := by
  obtain ⟨r, h1, h2, h3⟩ := h
  rw [h1, ← h2, ← h3]
structure LI (σ1 : L2.St) (H1 : Hp) (a : Addr) (cs : List Cell) (said : Option Bool) (σ : L2.St) (H : Hp) : Prop where
  len : σ.length = 5
  s0 : σ[0]? = σ1[0]?
  s1 : σ[1]? = some (some (.ref a))
  s4 : ∀ b, said = some b → σ[4]? = some (some (.bl b))
  ne : Nest H a cs
  fr : Frm (fun x => x = a) H1 H
  fh : ∀ c ∈ cs, H1 c.1 = none ∧ H1 c.2.1 = none
  sz : ∀ c ∈ cs, c.2.2.1.length ≤ 8000000 ∧ c.2.2.2.length ≤ 8000000 ∧ ∀ s ∈ c.2.2.2, s.length ≤ 8000000
  cz : cs.length ≤ 8000000
theorem LI.go {σ1 : L2.St} {H1 : Hp} {a : Addr} {cs : List Cell} {said : Option Bool} {σ : L2.St} {H H' : Hp} (h : LI σ1 H1 a cs said σ H) (f : Frm F0 H H') : LI σ1 H1 a cs said σ H' :=
  ⟨h.len, h.s0, h.s1, h.s4, h.ne.frm f, ⟨fun b o e n => f.eq _ _ (h.fr.eq b o e n) id, fun b e => f.on _ (h.fr.on b e)⟩, h.fh, h.sz, h.cz⟩
theorem LI.set {σ1 : L2.St} {H1 : Hp} {a : Addr} {cs : List Cell} {said : Option Bool} {σ : L2.St} {H : Hp} (h : LI σ1 H1 a cs said σ H) {i : Nat} {v : Option V} (hi : i = 2 ∨ i = 3) : LI σ1 H1 a cs said (σ.set i v) H :=
  ⟨by rw [List.length_set]; exact h.len, by rw [List.getElem?_set_ne (by omega)]; exact h.s0, by rw [List.getElem?_set_ne (by omega)]; exact h.s1, fun b e => by rw [List.getElem?_set_ne (by omega)]; exact h.s4 b e, h.ne, h.fr, h.fh, h.sz, h.cz⟩
theorem LI.said {σ1 : L2.St} {H1 : Hp} {a : Addr} {cs : List Cell} {said : Option Bool} {σ : L2.St} {H : Hp} (h : LI σ1 H1 a cs said σ H) {b : Bool} : LI σ1 H1 a cs (some b) (σ.set 4 (some (.bl b))) H :=
  ⟨by rw [List.length_set]; exact h.len, by rw [List.getElem?_set_ne (by omega)]; exact h.s0, by rw [List.getElem?_set_ne (by omega)]; exact h.s1, fun b' e => by cases e; exact List.getElem?_set_self (by rw [h.len]; decide), h.ne, h.fr, h.fh, h.sz, h.cz⟩
theorem LI.add {σ1 : L2.St} {H1 : Hp} {a p q : Addr} {z : Str} {cs : List Cell} {said : Option Bool} {σ : L2.St} {H : Hp} (h : LI σ1 H1 a cs said σ H) (hq : H q = none) (hp : (upd H q (.lst [])) p = none) (hz : z.length ≤ 8000000) (hc : cs.length < 8000000) :
    LI σ1 H1 a (cs ++ [(p, q, z, [])]) said σ (upd (upd (upd H q (.lst [])) p (.tup [.str z, .ref q])) a (.lst ((cs.map fun c => V.ref c.1) ++ [.ref p]))) := by
  have hpq : p ≠ q := fun e => by rw [e, upd_same] at hp; cases hp
  have hp' : H p = none := by rw [upd_ne hpq] at hp; exact hp
  refine ⟨h.len, h.s0, h.s1, h.s4, h.ne.add hq hp, ⟨fun b o e n => ?_, fun b e => ?_⟩, fun c hcm => ?_, fun c hcm => ?_, by rw [List.length_append, List.length_singleton]; omega⟩
  · have e' := h.fr.eq b o e n
    have n' : b ≠ a := n
    rw [upd_ne n', upd_ne (some_ne e' hp'), upd_ne (some_ne e' hq)]; exact e'
  · by_cases n : b = a
    · rw [n, upd_same]; exact fun z => nomatch z
    · rw [upd_ne n]
      by_cases n2 : b = p
      · rw [n2, upd_same]; exact fun z => nomatch z
      · rw [upd_ne n2]
        by_cases n3 : b = q
        · rw [n3, upd_same]; exact fun z => nomatch z
        · rw [upd_ne n3]; exact h.fr.on b e
  · rcases List.mem_append.mp hcm with hcm | hcm
    · exact h.fh c hcm
    · rw [List.mem_singleton.mp hcm]; exact ⟨frm_none h.fr hp', frm_none h.fr hq⟩
  · rcases List.mem_append.mp hcm with hcm | hcm
    · exact h.sz c hcm
    · rw [List.mem_singleton.mp hcm]; exact ⟨hz, Nat.zero_le _, fun s hs => by cases hs⟩
theorem LI.put {σ1 : L2.St} {H1 : Hp} {a p q : Addr} {z x : Str} {ls : List Str} {cs : List Cell} {said : Option Bool} {σ : L2.St} {H : Hp} (h : LI σ1 H1 a (cs ++ [(p, q, z, ls)]) said σ H) (hx : x.length ≤ 8000000) (hl : ls.length < 8000000) :
    LI σ1 H1 a (cs ++ [(p, q, z, ls ++ [x])]) said σ (upd H q (.lst (ls.map V.str ++ [.str x]))) := by
  have hm : (p, q, z, ls) ∈ cs ++ [(p, q, z, ls)] := List.mem_append.mpr (.inr List.mem_cons_self)
  obtain ⟨f1, f2⟩ := h.fh _ hm
  have hcz := h.cz
  refine ⟨h.len, h.s0, h.s1, h.s4, h.ne.put, ⟨fun b o e n => ?_, fun b e => ?_⟩, fun c hcm => ?_, fun c hcm => ?_, by rw [List.length_append, List.length_singleton] at hcz ⊢; exact hcz⟩
  · have e' := h.fr.eq b o e n
    have f2' : H1 q = none := f2
    rw [upd_ne (some_ne e f2')]; exact e'
  · by_cases n : b = q
    · rw [n, upd_same]; exact fun z => nomatch z
    · rw [upd_ne n]; exact h.fr.on b e
  · rcases List.mem_append.mp hcm with hcm | hcm
    · exact h.fh c (List.mem_append.mpr (.inl hcm))
    · rw [List.mem_singleton.mp hcm]; exact ⟨f1, f2⟩
  · rcases List.mem_append.mp hcm with hcm | hcm
    · exact h.sz c (List.mem_append.mpr (.inl hcm))
    · obtain ⟨s1, s2, s3⟩ := h.sz _ hm
      rw [List.mem_singleton.mp hcm]
      refine ⟨s1, by show (ls ++ [x]).length ≤ _; rw [List.length_append, List.length_singleton]; omega, fun s hs => ?_⟩
      rcases List.mem_append.mp (show s ∈ ls ++ [x] from hs) with hs | hs
      · exact s3 s hs
      · rw [List.mem_singleton.mp hs]; exact hx
theorem flat5 {σ : L2.St} {line : Str} {b3 b4 : B} (hl : σ.length = 5) (h2 : σ[2]? = some (some (.str line))) (hz : line.length ≤ 8000000)
    (h3 : b3 = B.u ∨ ∃ w : Str, b3 = B.v (.str w) ∧ w.length ≤ 8000000 ∧ σ[3]? = some (some (.str w))) (h4 : b4 = B.u ∨ ∃ b : Bool, b4 = B.v (.bool b) ∧ σ[4]? = some (some (.bl b))) : Flat σ [B.u, B.u, B.v (.str line), b3, b4] := by
  refine ⟨hl, fun i b e => ?_⟩
  match i, e with
  | 0, e => cases e; exact .inl rfl
  | 1, e => cases e; exact .inl rfl
  | 2, e => cases e; exact .inr ⟨_, _, rfl, h2, fun K H A => rep_str (show _ ≤ (16777216 : Nat) by omega)⟩
  | 3, e =>
    cases e
    rcases h3 with h3 | ⟨w, rfl, hw, h3⟩
    · exact .inl h3
    · exact .inr ⟨_, _, rfl, h3, fun K H A => rep_str (show _ ≤ (16777216 : Nat) by omega)⟩
  | 4, e =>
    cases e
    rcases h4 with h4 | ⟨w, rfl, h4⟩
    · exact .inl h4
    · exact .inr ⟨_, _, rfl, h4, fun K H A => rep_bl⟩
  | i + 5, e => simp at e
theorem rep_strV {K : PySem.W.Frag} {H : Hp} {A : Addr → Prop} {z : Str} {v : V} (r : RepD K H A (.str z) v) : v = .str z := by
  unfold RepD at r; exact r.1
theorem rep_boolV {K : PySem.W.Frag} {H : Hp} {A : Addr → Prop} {z : Bool} {v : V} (r : RepD K H A (.bool z) v) : v = .bl z := by
  unfold RepD at r; exact r
theorem rep_intV {K : PySem.W.Frag} {H : Hp} {A : Addr → Prop} {z : Int} {v : V} (r : RepD K H A (.int z) v) : v = .int z := by
  unfold RepD at r; exact r
theorem Frm.id0 {H H' H'' : Hp} (f : Frm F0 H H') (g : Frm F0 H' H'') : Frm F0 H H'' := ⟨fun a o h _ => g.eq _ _ (f.eq a o h id) id, fun a h => g.on _ (f.on a h)⟩
theorem at_last {α : Type} (xs : List α) (x : α) : L2.atI (xs ++ [x]) (-1) = some x := by
  unfold L2.atI L2.ixN
  rw [if_neg (by decide), if_pos (by rw [List.length_append, List.length_singleton]; omega)]
  show (xs ++ [x])[_]? = _
  rw [show ((-1 : Int) + ((xs ++ [x]).length : Nat)).toNat = xs.length by rw [List.length_append, List.length_singleton]; omega]
  simp
theorem body_ok {K : PySem.W.Frag} {D : Ends} {σ1 : L2.St} {H1 : Hp} {a : Addr} {cs : List Cell} {said : Option Bool} {σ : L2.St} {H : Hp} {line : Str} {st : Fnd × Option Bool} (h : LI σ1 H1 a cs said σ H) (h2 : σ[2]? = some (some (.str line)))
    (hs : fstep (cs.map fun c => c.2.2, said) line = some st) (q : ∀ σ' H' cs', st.1 = cs'.map (fun c => c.2.2) → LI σ1 H1 a cs' st.2 σ' H' → D.nx σ' H') : tbF K D σ H := by
  unfold fstep at hs
  split at hs
  · rename_i hg
    obtain ⟨g1, g2, g3⟩ := hg
    have SP := split_d g1
    cases hsp : Txt.split line (" " : Str) with
    | nil => rw [hsp] at hs; cases hs
    | cons w ws =>
      rw [hsp] at hs SP
      have fine : ∀ p ∈ w :: ws, p.length ≤ 8000000 := fun p hp => by
        have := (split_fine (x := line) (y := (" " : Str)) (p := p) (by decide) (by rw [hsp]; exact hp)).1
        omega
      have wl := fine w List.mem_cons_self
      -- the word
      refine tD_flat (E := [B.u, B.u, B.v (.str line), B.u, B.u]) (d := .str w) (flat5 h.len h2 g1 (.inl rfl) (.inl rfl)) (of_we (by unfold fWd; simp only [↓kW2, kP2, ↓kW, kP, String.reduceEq, Nat.reduceAdd, Nat.reduceSub, Nat.reduceMul, Nat.reducePow, Nat.reduceLT, Nat.reduceLeDiff, Nat.reduceEqDiff, Int.reduceAdd, Int.reduceSub, Int.reduceMul, Int.reduceNeg, Int.reducePow, Int.reduceLT, Int.reduceLE, Int.reduceEq, Int.reduceAbs, Int.reduceToNat, reduceCtorEq, SP])) fun v Ha A fa ra => ?_
      cases rep_strV ra
      show tIfS (cD K [] gBd) _ _ D (σ.set 3 (some (V.str w))) Ha
      have ha := (h.go fa).set (i := 3) (v := some (V.str w)) (.inr rfl)
      have e2 : (σ.set 3 (some (V.str w)))[2]? = some (some (.str line)) := by rw [List.getElem?_set_ne (by omega)]; exact h2
      have e3 : (σ.set 3 (some (V.str w)))[3]? = some (some (.str w)) := List.getElem?_set_self (by rw [h.len]; decide)
      generalize σ.set 3 (some (V.str w)) = σ at ha e2 e3 ⊢
      clear h h2 fa ra
      dsimp only at hs
      have FL : ∀ {H' : Hp} {b3 b4 : B}, LI σ1 H1 a cs said σ H' → (b3 = B.u ∨ b3 = B.v (.str w)) → (b4 = B.u ∨ ∃ b : Bool, b4 = B.v (.bool b) ∧ said = some b) → Flat σ [B.u, B.u, B.v (.str line), b3, b4] := fun hh h3 h4 =>
        flat5 hh.len e2 g1 (h3.imp id fun e => ⟨w, e, wl, e3⟩) (h4.imp id fun ⟨b, e, es⟩ => ⟨b, e, hh.s4 b es⟩)
      by_cases hb : w = ("body" : Str)
      · rw [if_pos hb] at hs
        cases ws with
        | nil => cases hs
        | cons z ws =>
          cases hs
          have zl := fine z (by simp)
          refine cD_flat (E := [B.u, B.u, B.v (.str line), B.v (.str w), B.u]) (c := true) (FL ha (.inr rfl) (.inl rfl)) (of_we (by unfold gBd; simp only [↓kW2, kP2, ↓kW, kP, String.reduceEq, Nat.reduceAdd, Nat.reduceSub, Nat.reduceMul, Nat.reducePow, Nat.reduceLT, Nat.reduceLeDiff, Nat.reduceEqDiff, Int.reduceAdd, Int.reduceSub, Int.reduceMul, Int.reduceNeg, Int.reducePow, Int.reduceLT, Int.reduceLE, Int.reduceEq, Int.reduceAbs, Int.reduceToNat, reduceCtorEq, hb])) fun Hb fb => ?_
          rw [if_pos rfl]
          have hb' := ha.go fb
          refine ⟨V.ref a, hb'.s1, .inl ⟨rfl, _, .inl (.inl hb'.ne.ha)⟩, ?_⟩
          refine tD_flat (E := [B.u, B.u, B.v (.str line), B.u, B.u]) (d := .str z) (FL hb' (.inl rfl) (.inl rfl)) (of_we (by unfold fNm; simp only [↓kW2, kP2, ↓kW, kP, String.reduceEq, Nat.reduceAdd, Nat.reduceSub, Nat.reduceMul, Nat.reducePow, Nat.reduceLT, Nat.reduceLeDiff, Nat.reduceEqDiff, Int.reduceAdd, Int.reduceSub, Int.reduceMul, Int.reduceNeg, Int.reducePow, Int.reduceLT, Int.reduceLE, Int.reduceEq, Int.reduceAbs, Int.reduceToNat, reduceCtorEq, SP])) fun v Hc A fc rc => ?_
          cases rep_strV rc
          have hc' := hb'.go fc
          refine ⟨Nat.zero_le _, fun qa hqa => ⟨by show 2 ≤ sizeLine; decide, fun pa hpa => ?_⟩⟩
          have hpq : pa ≠ qa := fun e => by rw [e, upd_same] at hpa; cases hpa
          have hpa' : Hc pa = none := by rw [upd_ne hpq] at hpa; exact hpa
          have hlen : cs.length < 8000000 := by simpa using g2
          refine ⟨a, cs.map (fun c => V.ref c.1), V.ref pa, rfl, rfl, ?_, by rw [List.length_map]; show _ < (16777216 : Nat); omega, ?_⟩
          · rw [upd_ne (some_ne hc'.ne.ha hpa'), upd_ne (some_ne hc'.ne.ha hqa)]; exact hc'.ne.ha
          have hd := hc'.add hqa hpa zl hlen
          refine tD_flat (E := [B.u, B.u, B.u, B.u, B.u]) (d := .bool false) ⟨hd.len, fun i b e => .inl ?_⟩ rfl fun v Hd A fd rd => ?_
          · match i, e with
            | 0, e => cases e; rfl
            | 1, e => cases e; rfl
            | 2, e => cases e; rfl
            | 3, e => cases e; rfl
            | 4, e => cases e; rfl
            | i + 5, e => simp at e
          cases rep_boolV rd
          exact q _ _ _ (by simp) ((hd.go fd).said)
      · rw [if_neg hb] at hs
        refine cD_flat (E := [B.u, B.u, B.v (.str line), B.v (.str w), B.u]) (c := false) (FL ha (.inr rfl) (.inl rfl)) (of_we (by unfold gBd; simp only [↓kW2, kP2, ↓kW, kP, String.reduceEq, Nat.reduceAdd, Nat.reduceSub, Nat.reduceMul, Nat.reducePow, Nat.reduceLT, Nat.reduceLeDiff, Nat.reduceEqDiff, Int.reduceAdd, Int.reduceSub, Int.reduceMul, Int.reduceNeg, Int.reducePow, Int.reduceLT, Int.reduceLE, Int.reduceEq, Int.reduceAbs, Int.reduceToNat, reduceCtorEq, hb, Ne.symm hb])) fun Hb fb => ?_
        rw [if_neg Bool.false_ne_true]
        have hb' := ha.go fb
        by_cases hg : w = ("gives" : Str)
        · rw [if_pos hg] at hs
          cases hs
          refine cD_flat (E := [B.u, B.u, B.v (.str line), B.v (.str w), B.u]) (c := true) (FL hb' (.inr rfl) (.inl rfl)) (of_we (by unfold gGv; simp only [↓kW2, kP2, ↓kW, kP, String.reduceEq, Nat.reduceAdd, Nat.reduceSub, Nat.reduceMul, Nat.reducePow, Nat.reduceLT, Nat.reduceLeDiff, Nat.reduceEqDiff, Int.reduceAdd, Int.reduceSub, Int.reduceMul, Int.reduceNeg, Int.reducePow, Int.reduceLT, Int.reduceLE, Int.reduceEq, Int.reduceAbs, Int.reduceToNat, reduceCtorEq, hg])) fun Hc fc => ?_
          rw [if_pos rfl]
          have hc' := hb'.go fc
          refine tD_flat (E := [B.u, B.u, B.v (.str line), B.v (.str w), B.u]) (d := .bool true) (FL hc' (.inr rfl) (.inl rfl)) (of_we (by unfold fGv; simp only [↓kW2, kP2, ↓kW, kP, String.reduceEq, Nat.reduceAdd, Nat.reduceSub, Nat.reduceMul, Nat.reducePow, Nat.reduceLT, Nat.reduceLeDiff, Nat.reduceEqDiff, Int.reduceAdd, Int.reduceSub, Int.reduceMul, Int.reduceNeg, Int.reducePow, Int.reduceLT, Int.reduceLE, Int.reduceEq, Int.reduceAbs, Int.reduceToNat, reduceCtorEq, hg])) fun v Hd A fd rd => ?_
          cases rep_boolV rd
          exact q _ _ _ rfl ((hc'.go fd).said)
        · rw [if_neg hg] at hs
          cases said with
          | none => cases hs
          | some b =>
            cases b with
            | false =>
              cases hs
              refine cD_flat (E := [B.u, B.u, B.v (.str line), B.v (.str w), B.v (.bool false)]) (c := true) (FL hb' (.inr rfl) (.inr ⟨_, rfl, rfl⟩)) (of_we (by unfold gGv; simp only [↓kW2, kP2, ↓kW, kP, String.reduceEq, Nat.reduceAdd, Nat.reduceSub, Nat.reduceMul, Nat.reducePow, Nat.reduceLT, Nat.reduceLeDiff, Nat.reduceEqDiff, Int.reduceAdd, Int.reduceSub, Int.reduceMul, Int.reduceNeg, Int.reducePow, Int.reduceLT, Int.reduceLE, Int.reduceEq, Int.reduceAbs, Int.reduceToNat, reduceCtorEq, hg, Ne.symm hg])) fun Hc fc => ?_
              rw [if_pos rfl]
              have hc' := hb'.go fc
              refine tD_flat (E := [B.u, B.u, B.v (.str line), B.v (.str w), B.u]) (d := .bool false) (FL hc' (.inr rfl) (.inl rfl)) (of_we (by unfold fGv; simp only [↓kW2, kP2, ↓kW, kP, String.reduceEq, Nat.reduceAdd, Nat.reduceSub, Nat.reduceMul, Nat.reducePow, Nat.reduceLT, Nat.reduceLeDiff, Nat.reduceEqDiff, Int.reduceAdd, Int.reduceSub, Int.reduceMul, Int.reduceNeg, Int.reducePow, Int.reduceLT, Int.reduceLE, Int.reduceEq, Int.reduceAbs, Int.reduceToNat, reduceCtorEq, hg, Ne.symm hg])) fun v Hd A fd rd => ?_
              cases rep_boolV rd
              exact q _ _ _ rfl ((hc'.go fd).said)
            | true =>
              dsimp only at hs
              refine cD_flat (E := [B.u, B.u, B.v (.str line), B.v (.str w), B.v (.bool true)]) (c := false) (FL hb' (.inr rfl) (.inr ⟨_, rfl, rfl⟩)) (of_we (by unfold gGv; simp only [↓kW2, kP2, ↓kW, kP, String.reduceEq, Nat.reduceAdd, Nat.reduceSub, Nat.reduceMul, Nat.reducePow, Nat.reduceLT, Nat.reduceLeDiff, Nat.reduceEqDiff, Int.reduceAdd, Int.reduceSub, Int.reduceMul, Int.reduceNeg, Int.reducePow, Int.reduceLT, Int.reduceLE, Int.reduceEq, Int.reduceAbs, Int.reduceToNat, reduceCtorEq, hg, Ne.symm hg])) fun Hc fc => ?_
              rw [if_neg Bool.false_ne_true]
              have hc' := hb'.go fc
              by_cases hel : line = ("else" : Str) ∨ line = ("end" : Str)
              · rw [if_pos hel] at hs
                cases hs
                refine cD_flat (E := [B.u, B.u, B.v (.str line), B.u, B.u]) (c := false) (FL hc' (.inl rfl) (.inl rfl)) (of_we (by unfold gIn; rcases hel with hel | hel <;> simp only [↓kW2, kP2, ↓kW, kP, String.reduceEq, Nat.reduceAdd, Nat.reduceSub, Nat.reduceMul, Nat.reducePow, Nat.reduceLT, Nat.reduceLeDiff, Nat.reduceEqDiff, Int.reduceAdd, Int.reduceSub, Int.reduceMul, Int.reduceNeg, Int.reducePow, Int.reduceLT, Int.reduceLE, Int.reduceEq, Int.reduceAbs, Int.reduceToNat, reduceCtorEq, hel])) fun Hd fd => ?_
                rw [if_neg Bool.false_ne_true]
                exact q _ _ _ rfl (hc'.go fd)
              · rw [if_neg hel] at hs
                have n1 : ¬ (line = ("else" : Str)) := fun e => hel (.inl e)
                have n2 : ¬ (line = ("end" : Str)) := fun e => hel (.inr e)
                refine cD_flat (E := [B.u, B.u, B.v (.str line), B.u, B.u]) (c := true) (FL hc' (.inl rfl) (.inl rfl)) (of_we (by unfold gIn; simp only [↓kW2, kP2, ↓kW, kP, String.reduceEq, Nat.reduceAdd, Nat.reduceSub, Nat.reduceMul, Nat.reducePow, Nat.reduceLT, Nat.reduceLeDiff, Nat.reduceEqDiff, Int.reduceAdd, Int.reduceSub, Int.reduceMul, Int.reduceNeg, Int.reducePow, Int.reduceLT, Int.reduceLE, Int.reduceEq, Int.reduceAbs, Int.reduceToNat, reduceCtorEq, n1, n2, Ne.symm n1, Ne.symm n2])) fun Hd fd => ?_
                rw [if_pos rfl]
                have hd := hc'.go fd
                rcases List.eq_nil_or_concat cs with rfl | ⟨cs0, c, rfl⟩
                · cases hs
                · obtain ⟨p, q', z, ls⟩ := c
                  rw [List.concat_eq_append] at hs hd g3 g2 FL
                  rw [List.map_append, List.reverse_append] at hs
                  cases hs
                  have hll : ls.length < 8000000 := by simp at g3; exact g3.2
                  have hm : (p, q', z, ls) ∈ cs0 ++ [(p, q', z, ls)] := List.mem_append.mpr (.inr List.mem_cons_self)
                  refine ⟨V.ref a, hd.s1, ?_⟩
                  refine tD_flat (E := [B.u, B.u, B.v (.str line), B.u, B.u]) (d := .int (-1)) (FL hd (.inl rfl) (.inl rfl)) (of_we (by unfold fM1; simp only [↓kW2, kP2, ↓kW, kP, String.reduceEq, Nat.reduceAdd, Nat.reduceSub, Nat.reduceMul, Nat.reducePow, Nat.reduceLT, Nat.reduceLeDiff, Nat.reduceEqDiff, Int.reduceAdd, Int.reduceSub, Int.reduceMul, Int.reduceNeg, Int.reducePow, Int.reduceLT, Int.reduceLE, Int.reduceEq, Int.reduceAbs, Int.reduceToNat, reduceCtorEq])) fun v He A fe re => ?_
                  cases rep_intV re
                  have he := hd.go fe
                  refine .inl ⟨a, (cs0 ++ [(p, q', z, ls)]).map (fun c => V.ref c.1), -1, V.ref p, rfl, rfl, .inl (.inl he.ne.ha), by rw [List.map_append]; exact at_last _ _, ?_⟩
                  refine tD_flat (E := [B.u, B.u, B.v (.str line), B.u, B.u]) (d := .int 1) (FL he (.inl rfl) (.inl rfl)) rfl fun v Hf A ff rf => ?_
                  cases rep_intV rf
                  have hf := he.go ff
                  refine .inr (.inl ⟨p, [V.str z, V.ref q'], 1, V.ref q', rfl, rfl, .inl (.inl (hf.ne.ht _ hm).1), rfl, ?_⟩)
                  refine ⟨.inl ⟨rfl, _, .inl (.inl (hf.ne.ht _ hm).2)⟩, ?_⟩
                  refine tD_flat (E := [B.u, B.u, B.v (.str line), B.u, B.u]) (d := .str line) (FL hf (.inl rfl) (.inl rfl)) rfl fun v Hg A fg rg => ?_
                  cases rep_strV rg
                  have hg' := hf.go fg
                  refine ⟨q', ls.map V.str, V.str line, rfl, rfl, (hg'.ne.ht _ hm).2, by rw [List.length_map]; show _ < (16777216 : Nat); omega, ?_⟩
                  exact q _ _ _ (by simp) (hg'.put g1 hll)
  · cases hs
/-- the whole walk -/
def sFirsts (fl : Lf) : Sf := fun E => match E with
  | [B.v _, B.o (.lst []), B.u, B.u, B.u] => (fl E).bind fun r => match r.2 with
    | [B.v P, B.o (.lst []), B.u, B.u, B.u] => (frun r.1 ([], none)).map fun f => .nx [B.v P, B.o (.lst (encF f)), B.u, B.u, B.u]
    | _ => none
  | _ => none
theorem encF_rep {K : PySem.W.Frag} {H : Hp} {A : Addr → Prop} {a : Addr} : ∀ {cs : List Cell}, (∀ c ∈ cs, H c.1 = some (.tup [V.str c.2.2.1, V.ref c.2.1]) ∧ H c.2.1 = some (.lst (c.2.2.2.map V.str))) → (∀ c ∈ cs, ¬ A c.1 ∧ ¬ A c.2.1) → (∀ c ∈ cs, c.2.2.1.length ≤ 8000000 ∧ c.2.2.2.length ≤ 8000000 ∧ ∀ s ∈ c.2.2.2, s.length ≤ 8000000) →
    RepL K H A (encF (cs.map fun c => c.2.2)) (cs.map fun c => V.ref c.1)
  | [], _, _, _ => repL_nil
  | c :: cs, h1, h2, h3 => by
    obtain ⟨t1, t2⟩ := h1 c List.mem_cons_self
    obtain ⟨n1, n2⟩ := h2 c List.mem_cons_self
    obtain ⟨z1, z2, z3⟩ := h3 c List.mem_cons_self
    refine repL_cons (rep_tup (.inl ⟨n1, .inl t1⟩) (show 2 ≤ sizeLine by decide) (repL_cons (rep_str (show c.2.2.1.length ≤ (16777216 : Nat) by omega)) (repL_cons (rep_lst ⟨n2, .inl t2⟩ (by rw [List.length_map]; show _ ≤ (16777216 : Nat); omega) (repL_strs (List.all_eq_true.mpr fun y hy => decide_eq_true (by have := z3 y hy; show _ ≤ (16777216 : Nat); omega)))) repL_nil))) ?_
    exact encF_rep (a := a) (fun c hc => h1 c (List.mem_cons_of_mem _ hc)) (fun c hc => h2 c (List.mem_cons_of_mem _ hc)) (fun c hc => h3 c (List.mem_cons_of_mem _ hc))
theorem sD_firsts {K : PySem.W.Frag} {fl : Lf} {Dn : Ends} {σ : L2.St} {H : Hp} (w : sD K [] (sFirsts fl) Dn σ H) : tFor (iD K [] fl) (gD K (τN 2)) (tbF K) Dn σ H := by
  obtain ⟨Γ, ad, E0, o, ok0, he, p⟩ := w
  unfold sFirsts at he
  split at he
  · rename_i P0
    obtain ⟨⟨ds, E1⟩, h1, h2⟩ := Option.bind_eq_some_iff.mp he
    dsimp only at h2
    split at h2
    · rename_i P
      obtain ⟨f, h3, h4⟩ := Option.map_eq_some_iff.mp h2
      subst h4
      refine ⟨Γ, ad, _, ds, _, ok0, h1, fun J n G Y H1 fr ok1 sim wk hn its => ?_⟩
      obtain ⟨o1, vs, o2, o3, o4⟩ := ok1.ob 1 (.lst []) rfl
      have ev : vs = [] := by unfold RepL at o4; exact o4
      subst ev
      have l5 := ok1.len
      have ow : Own [] ad [B.v P, B.o (.lst []), B.u, B.u, B.u] (ad 1) := ⟨1, _, by simp, rfl, rfl⟩
      have GO : ∀ {H' : Hp}, Frm (fun x => x = ad 1) H1 H' → Go H1 (Ao Γ [] ad [B.v P, B.o (.lst []), B.u, B.u, B.u]) H' (Ao Γ [] ad [B.v P, B.o (.lst []), B.u, B.u, B.u]) := fun f => ⟨fun a o e n => f.eq a o e fun z => n (.inr (by rw [z]; exact ow)), fun a h => .inl h⟩
      have ON : ∀ {H' : Hp}, Frm (fun x => x = ad 1) H1 H' → ∀ a, Ao Γ [] ad [B.v P, B.o (.lst []), B.u, B.u, B.u] a → H' a ≠ none := fun f a h => f.on a (ok1.on a h)
      refine for_it wk (fun i σ' H' => ∃ cs said, LI σ H1 (ad 1) cs said σ' H' ∧ frun (ds.drop i) (cs.map (fun c => c.2.2), said) = some f) ⟨[], none, ⟨l5, rfl, o1, (fun b e => by cases e), ⟨o2, (fun c hc => by cases hc), (fun c hc => by cases hc), .nil⟩, Frm.refl, (fun c hc => by cases hc), (fun c hc => by cases hc), Nat.zero_le _⟩, h3⟩ ?_ ?_ ?_
      · rintro i σ' H' hi ⟨cs, said, li, e⟩
        exact (its.at_ H' _ (GO li.fr) (ON li.fr)).1
      · rintro i x σ' H' H'' hi ⟨cs, said, li, e⟩ y
        obtain ⟨d, hd⟩ : ∃ d, ds[i]? = some d := ⟨ds[i]'(by omega), List.getElem?_eq_getElem (by omega)⟩
        obtain ⟨fr2, r⟩ := (its.at_ H' _ (GO li.fr) (ON li.fr)).2 i x H'' d hd y
        rw [drop_at hd] at e
        cases d with
        | str line =>
          obtain ⟨st, h5, h6⟩ := Option.bind_eq_some_iff.mp e
          cases rep_strV r
          refine ⟨_, .str line, [(2, .str line)], r, rfl, fun ws hw => ?_⟩
          obtain ⟨v, r', e1, r1, r2⟩ := hw
          unfold SetR at r2
          subst r2 e1
          cases rep_strV r1
          have li2 := (li.go fr2).set (i := 2) (v := some (V.str line)) (.inl rfl)
          refine body_ok li2 (List.getElem?_set_self (by rw [li.len]; show 2 < 5; decide)) h5 fun σ3 H3 cs3 e3 li3 => ?_
          refine ⟨cs3, st.2, li3, ?_⟩
          rw [← e3]
          exact h6
        | _ => cases e
      · rintro σ' H' ⟨cs, said, li, e⟩
        rw [hn, List.drop_length] at e
        cases e
        have back : ∀ (j : Nat) (m : M), [B.v P, B.o (.lst (encF (cs.map fun c => c.2.2))), B.u, B.u, B.u][j]? = some (B.o m) → j = 1 ∧ m = .lst (encF (cs.map fun c => c.2.2)) := fun j m z => by
          match j, z with
          | 0, z => cases z
          | 1, z => cases z; exact ⟨rfl, rfl⟩
          | 2, z => cases z
          | 3, z => cases z
          | 4, z => cases z
          | j + 5, z => simp at z
        have ownE : ∀ a, Own [] ad [B.v P, B.o (.lst (encF (cs.map fun c => c.2.2))), B.u, B.u, B.u] a → Own [] ad [B.v P, B.o (.lst []), B.u, B.u, B.u] a := fun a ⟨j, m, z1, z2, z3⟩ => by
          obtain ⟨rfl, _⟩ := back j m z2
          rw [z3]; exact ow
        have aoE : ∀ a, Ao Γ [] ad [B.v P, B.o (.lst (encF (cs.map fun c => c.2.2))), B.u, B.u, B.u] a → Ao Γ [] ad [B.v P, B.o (.lst []), B.u, B.u, B.u] a := fun a h => h.imp id (ownE a)
        have g : Go H1 (Ao Γ [] ad [B.v P, B.o (.lst []), B.u, B.u, B.u]) H' (Ao Γ [] ad [B.v P, B.o (.lst (encF (cs.map fun c => c.2.2))), B.u, B.u, B.u]) := ⟨(GO li.fr).eq, fun a h => .inl (aoE a h)⟩
        have fresh : ∀ {x : Addr}, H1 x = none → ¬ Ao Γ [] ad [B.v P, B.o (.lst (encF (cs.map fun c => c.2.2))), B.u, B.u, B.u] x := fun h z => ok1.on _ (aoE _ z) h
        refine p σ' H' ad ⟨⟨fun a o e n => ?_, fun a e => li.fr.on a (fr.on a e)⟩, fun a h => .inl ?_, fun _ _ => rfl⟩ ?_
        · have e1 := fr.eq a o e n
          refine li.fr.eq a o e1 fun z => n (.inr ?_)
          have z' : a = ad 1 := z
          have ow0 : Own [] ad [B.v P0, B.o (.lst []), B.u, B.u, B.u] (ad 1) := ⟨1, _, by simp, rfl, rfl⟩
          rw [z']; exact ow0
        · obtain ⟨j, m, z1, z2, z3⟩ := h
          obtain ⟨rfl, _⟩ := back j m z2
          exact ⟨1, _, by simp, rfl, z3⟩
        · refine ⟨li.len, ok1.w, fun a h => li.fr.on a (ok1.oA a h), fun a h => li.fr.on a (ok1.hk a h), fun j d z => ?_, fun j m z => ?_, fun j m z hj => by simp at hj, fun j m z hj => ?_, fun j k m m' z1 z2 _ => ?_⟩
          · match j, z with
            | 0, z =>
              cases z
              obtain ⟨v, w1, w2⟩ := ok1.vl 0 P rfl
              exact ⟨v, by rw [li.s0]; exact w1, g.rep _ _ w2⟩
            | 1, z => cases z
            | 2, z => cases z
            | 3, z => cases z
            | 4, z => cases z
            | j + 5, z => simp at z
          · obtain ⟨rfl, rfl⟩ := back j m z
            have hz := li.cz
            exact ⟨li.s1, _, li.ne.ha, by rw [List.length_map]; show _ ≤ (16777216 : Nat); omega, encF_rep (a := ad 1) li.ne.ht (fun c hc => ⟨fresh (li.fh c hc).1, fresh (li.fh c hc).2⟩) li.sz⟩
          · obtain ⟨rfl, _⟩ := back j m z
            exact ok1.obn 1 _ rfl hj
          · obtain ⟨rfl, _⟩ := back j m z1
            obtain ⟨rfl, _⟩ := back k m' z2
            rfl
    · cases h2
  · cases he
theorem ds_firsts {X : Cx} {tg a : Expr} {sts : List Stmt} {pos : Pos} {fl : Lf} (hp : PassesOwn (model X.prog X.w) X.A X.env X.xe) (hc : X.calm = true) (hi : PI X tg a (iD X.K [] fl)) (hg : PG X tg (gD X.K (τN 2))) (hb : PSs X sts (tbF X.K))
    (hs : ∀ x, foldedSetIterable a X.env x = pure x := by intro _; rfl) : PS X (.For tg a sts [] pos) (sD X.K [] (sFirsts fl)) := (ps_for hp hc hi hg hb hs).imp fun Dn σ H w => sD_firsts w
end DL

namespace DL
open PySem PySem.Spec PyProof.Rows L2
/-! ### a text not in a text -/
def oNotInT : PyData → PyData → Option PyData
  | .str i, .str j => some (.bool (!(!(Builtin.Str.occurrences j i 0 j.length 1).isEmpty)))
  | _, _ => none
def rNotInT : R2 := fun x y H Q => ∃ i j, x = .str i ∧ y = .str j ∧ Q (.bl (!(!(Builtin.Str.occurrences j i 0 j.length 1).isEmpty))) H
theorem op_notInT {X : Cx} : OpR X (compareOp .NotIn) rNotInT := op_notIn_str
theorem rs_notInT {K : PySem.W.Frag} : RS K rNotInT oNotInT := by
  intro H A x y z vx vy Q hA rx ry hz k
  unfold oNotInT at hz
  split at hz
  · cases hz
    cases rx.str.1
    cases ry.str.1
    exact ⟨_, _, rfl, rfl, k _ _ Frm.refl rep_bl⟩
  · cases hz
end DL

set_option maxHeartbeats 4000000
namespace DL
open PySem PySem.Spec PyProof.Rows L2
/-! ### own exception classes, straight over a builtin one, with an __init__ of their own -/
abbrev blT (b : String) : List Value := [.type b, .type "Exception", .type "BaseException", .type "object"]
/-- a builtin class of exceptions: its __new__ and __init__, stores let by -/
structure BaseB (b : String) (ni ii : String) : Prop where
  f : ExcBaseFacts b ni ii (blT b)
  pass : ∀ self, refuseLoop self "__setattr__" (blT b) = pure ()
theorem bb_V : BaseB "ValueError" "ValueError.__new__" "ValueError.__init__" := ⟨F.excBase_ValueError, F.store_ValueError.passes⟩
theorem bb_T : BaseB "TypeError" "TypeError.__new__" "TypeError.__init__" := ⟨F.excBase_TypeError, F.store_TypeError.passes⟩
theorem bb_R : BaseB "RuntimeError" "RuntimeError.__new__" "RuntimeError.__init__" := ⟨F.excBase_RuntimeError, F.store_RuntimeError.passes⟩
theorem bb_L : BaseB "LookupError" "LookupError.__new__" "LookupError.__init__" := ⟨F.excBase_LookupError, F.store_LookupError.passes⟩
/-- what the head says of the class at C -/
structure OexB (K : PySem.W.Frag) (C : Addr) (b ni : String) : Prop where
  cls : ∃ nm q N bs sn sub ab col dd k0 k1 k2 k3 k5, K.lookup C = some (excClassObj nm q C N bs (blT b) true sn sub ab col dd k0 k1 k2 k3 k5 ni)
  sa : PySem.W.findIn K (.ref C) "__setattr__" = some (some (.builtin "object.__setattr__"))
  exC : PySem.W.subIn K (.ref C) (.type "BaseException") = some true
  tyC : PySem.W.typeIn K (.ref C) = some (.type "type")
  kC : PySem.W.keepIn K (.ref C) = true
section
open Builtin Builtin.ObjectAttr PySem.W
variable {prog : Program} {w : World} {A : Around} {R : Result → Shared → Prop} {hp : Heap} {g : Array GenState} {d : Drawn} {t : Nat} {os : OsState}
theorem blT_has {C : Addr} {b : String} : (Value.ref C :: blT b).contains (.type "object") = true := by
  have e : (Value.type "object" == Value.type "object") = true := by decide +kernel
  simp only [List.contains_cons, e, Bool.or_true, Bool.true_or]
/-- the road of a store to the object's own dict -/
theorem osaB {K : Frag} {b name : Str} {tk : Tok} {v : Value} {x C : Addr} {ox : Obj} {od : Option Obj} {cd : ClassData} {bn : String} (ps : ∀ self, refuseLoop self "__setattr__" (blT bn) = pure ())
    (X : K.In hp) (I : InstAt hp x ox C od) (hcd : clsIn K C = some cd) (hm : cd.mro = .ref C :: blT bn) (ha : findIn K (.ref C) name = some none)
    (hq : wpAny (model prog w) A.in1 (storeInOwnDict (.ref x) (.ref C) (.str name tk) name v false)
      (fun fin z => match fin with | .done f => R (.ok f) z | .again c' => c'.quiet = true ∧ codeAny (model prog w) A c' R z) (fun e z => R (.error e) z) ⟨hp, g, d, t, os⟩) :
    codeAny (model prog w) A (.call (.builtin "object.__setattr__") ⟨[.ref x, .str name tk, v], []⟩) R ⟨hp, g, d, t, os⟩ := by
  have so := F.store_object
  have isob : Looks (model prog w) hp (isInstance (.ref x) (.type "object")) true := I.type.andThen (looks_mroIn X (by
    unfold mroIn; rw [hcd, Option.bind_some, hm, if_neg (show ¬ (List.isEmpty (Value.ref C :: blT bn) = true) from Bool.false_ne_true), blT_has]))
  have mr : Looks (model prog w) hp (mroOf (.ref C)) cd.mro := (looks_clsIn X hcd).andThen .now
  have tk0 : Looks (model prog w) hp (storeTaker? none) none := .now
  have let_ : refuseLoop (.ref x) "__setattr__" cd.mro = pure () := by rw [hm, refuseLoop_ref]; exact ps _
  refine codeAny_call_builtin so.slot.plain so.entry (@check_slot (model prog w) _ _ ⟨hp, g, d, t, os⟩ "object.__setattr__" "object" "__setattr__" (.ref x) [.str name tk, v] [] _ so.kind so.split isob (so.args (.ref x) (.str name tk) v) ?_)
  rw [osa_eq, refuse_eq]
  refine wpAny_bind (wpAny_bind (I.type.at (wpAny_bind (mr.at ?_))))
  rw [let_]
  exact wpAny_pure (wpAny_bind (I.type.at (wpAny_bind ((looks_findIn X ha).at (wpAny_bind (tk0.at hq))))))
/-- the first field -/
theorem osaB_new {K : Frag} {name : Str} {tk : Tok} {v : Value} {x C : Addr} {fv : Array Value} {cd : ClassData} {bn : String} (ps : ∀ self, refuseLoop self "__setattr__" (blT bn) = pure ())
    (X : K.In hp) (hx : hp.get? x = some { cls := .ref C, data := .fields fv }) (hcd : clsIn K C = some cd) (hm : cd.mro = .ref C :: blT bn) (hh : cd.hasDict = true) (ha : findIn K (.ref C) name = some none)
    (hq : ∀ h' tk' dx, (∀ c o, c ≠ x → hp.get? c = some o → h'.get? c = some o) → hp.objs.size ≤ dx → dx ≠ x → h'.get? x = some { cls := .ref C, dict := some dx, data := .fields fv } →
      h'.Ns1 dx (fun y => if y = name then some v else none) → R (.ok (.ret .none)) ⟨h', g, d, tk', os⟩) :
    codeAny (model prog w) A (.call (.builtin "object.__setattr__") ⟨[.ref x, .str name tk, v], []⟩) R ⟨hp, g, d, t, os⟩ := by
  have xn : x ≠ hp.objs.size := Nat.ne_of_lt (Heap.lt_size hx)
  have lc : Looks (model prog w) hp (classData C) cd := looks_clsIn X hcd
  refine osaB (b := name) (od := none) (ox := { cls := .ref C, data := .fields fv }) ps X ⟨hx, rfl, rfl, trivial⟩ hcd hm ha ?_
  obtain ⟨z1, z2, z3, z4, z5, hd, z6, z7, z8, z9, z10⟩ := cd
  dsimp only at hh
  subst hh
  unfold storeInOwnDict ownDictForStores
  repeat (first | with_reducible refine HandSPX.store_in_new ?_ ?_ | with_reducible refine wpAny_loadPart_at hx ?_ | with_reducible refine lc.at ?_ | wp_step)
  · exact ⟨_, #[], _, (Heap.get?_update_ne _ _ _ _ xn.symm).trans (Heap.get?_push_at rfl rfl), rfl, fun e q => absurd q (by simp), fun _ => rfl⟩
  · intro h' tk' hn' hs
    have x1 : (hp.push { cls := .type "dict", data := .dict #[] }).get? x = some { cls := .ref C, data := .fields fv } := Heap.get?_push_of_some _ hx
    refine hq h' tk' hp.objs.size (fun c o hc q => ?_) (Nat.le_refl _) xn.symm ?_ hn'
    · exact (hs.2 c (Nat.ne_of_lt (Heap.lt_size q))).trans ((Heap.get?_update_ne _ _ _ _ hc).trans (Heap.get?_push_of_some _ q))
    · exact (hs.2 x xn).trans (Heap.get?_update_self _ x1 rfl)
/-- a further field -/
theorem osaB_old {K : Frag} {name : Str} {tk : Tok} {v : Value} {x C dx : Addr} {fv : Array Value} {cd : ClassData} {m0 : Str → Option Value} {nl : List Str} {bn : String} (ps : ∀ self, refuseLoop self "__setattr__" (blT bn) = pure ())
    (X : K.In hp) (hx : hp.get? x = some { cls := .ref C, dict := some dx, data := .fields fv }) (hns : hp.Ns1 dx m0) (hw : Within m0 nl) (hz : nl.length ≤ 1000) (hcd : clsIn K C = some cd) (hm : cd.mro = .ref C :: blT bn) (hh : cd.hasDict = true)
    (ha : findIn K (.ref C) name = some none)
    (hq : ∀ h' tk', (∀ c o, c ≠ dx → hp.get? c = some o → h'.get? c = some o) → h'.Ns1 dx (fun y => if y = name then some v else m0 y) → R (.ok (.ret .none)) ⟨h', g, d, tk', os⟩) :
    codeAny (model prog w) A (.call (.builtin "object.__setattr__") ⟨[.ref x, .str name tk, v], []⟩) R ⟨hp, g, d, t, os⟩ := by
  obtain ⟨oD, y1, y2, hoD, y3, y4⟩ := hns.count hw
  have lc : Looks (model prog w) hp (classData C) cd := looks_clsIn X hcd
  refine osaB (b := name) (od := some oD) (ox := { cls := .ref C, dict := some dx, data := .fields fv }) ps X ⟨hx, rfl, rfl, hoD⟩ hcd hm ha ?_
  obtain ⟨z1, z2, z3, z4, z5, hd, z6, z7, z8, z9, z10⟩ := cd
  dsimp only at hh
  subst hh
  unfold storeInOwnDict ownDictForStores
  repeat (first | with_reducible refine PySem.OEX.store_in_old hns hw hz ?_ | with_reducible refine wpAny_loadPart_at hx ?_ | with_reducible refine lc.at ?_ | wp_step)
  intro h' tk' hn' hs
  exact hq h' tk' (fun c o hc q => (hs.2 c hc).trans q) hn'
end
section
variable {X : Cx} {pins : List (Addr × Obj)} {σ : L2.St} {H : Hp} {s : Shared} {a C dx : Addr} {f : Str} {y : V} {u : Value} {fs : List (Str × V)} {Q : Unit → Shared → Prop} {E : Value → Shared → Prop} {A : Around} {b ni ii : String}
theorem OexB.at_ {K : PySem.W.Frag} (T : OexB K C b ni) : ∃ cd, PySem.W.clsIn K C = some cd ∧ cd.mro = .ref C :: blT b ∧ cd.hasDict = true := by
  obtain ⟨nm, q, N, bs, sn, sub, ab, col, dd, k0, k1, k2, k3, k5, hC⟩ := T.cls
  exact ⟨{ name := nm, bases := bs, mro := .ref C :: blT b, ns := N, qualname := q, hasDict := true, slotNames := sn, subclasses := sub, abstract := ab, collection := col, hasDel := false }, by unfold PySem.W.clsIn; rw [hC] <;> rfl, rfl, rfl⟩
/-- self.f = y on an exception without a dict -/
theorem ostB_new (B : BaseB b ni ii) (T : OexB X.K C b ni) (I : Inv X pins σ H s) (e : H a = some (exo a C none)) (hno : PySem.W.findIn X.K (.ref C) f = some none) (ry : RelV y u)
    (h : ∀ dx s', H dx = none → dx ≠ a → Inv X pins σ (upd (upd H dx (exd dx [(f, y)])) a (exo a C (some dx))) s' → Q () s') : wpAny (model X.prog X.w) A (setAttr (.ref a) f u) Q E s := by
  obtain ⟨cd, hcl, hm, hd⟩ := T.at_
  obtain ⟨t1, ho⟩ := exo_at I.hok e
  obtain ⟨hp, g, d, t, os⟩ := s
  refine PySem.W.set_plain I.kIn (od := none) (ox := { cls := .ref C, dict := none, data := .fields #[.ref t1, .none, .none, .none, .bool false, .none] }) ⟨ho, rfl, rfl, trivial⟩ T.sa ?_
  refine osaB_new B.pass I.kIn ho hcl hm hd hno fun h' tk' dx k dn dne hx hn => ?_
  have fresh : H dx = none := I.hok.fresh dn
  have nd : ∀ {c : Addr} {o : Obj}, hp.get? c = some o → c ≠ dx := fun {c o} q => Nat.ne_of_lt (Nat.lt_of_lt_of_le (Heap.lt_size q) dn)
  have na : ∀ {c : Addr}, H c = none → c ≠ a := fun {c} n z => by rw [z, e] at n; cases n
  have U : Un X.fs [] H (upd (upd H dx (exd dx [(f, y)])) a (exo a C (some dx))) hp h' := {
    keep := fun c o q n _ _ => k c o (na n) q
    slot := fun c o q n _ _ => ⟨o.slots, k c o (na n) q⟩
    free := fun c o q n _ => (upd_ne (na n)).trans ((upd_ne (nd q)).trans n)
    there := fun c o q _ => by
      by_cases hc : c = a
      · subst hc; exact ⟨_, hx⟩
      · exact ⟨o, k c o hc q⟩
    tups := fun c xs q => (upd_ne (at_ne e q exo_tup)).trans ((upd_ne (ne_of_none q fresh)).trans q)
    frzs := fun c o v q => (upd_ne (at_ne e q exo_frz)).trans ((upd_ne (ne_of_none q fresh)).trans q)
    tbls := fun c xs q => ⟨#[], by rw [upd_ne (at_ne e q exo_tbl), upd_ne (ne_of_none q fresh), q]; simp⟩ }
  refine h dx _ fresh dne (I.un (t' := tk') U fun c o q => ?_)
  by_cases hc : c = a
  · subst hc; rw [upd_same] at q; cases q; exact exo_ok hx
  · rw [upd_ne hc] at q
    by_cases hcd : c = dx
    · subst hcd; rw [upd_same] at q; cases q; exact exd_ok hn (relO_put (fs := []) ry fun g => True.intro)
    · rw [upd_ne hcd] at q
      exact (I.hok c o q).stay (fun c' v hc' z => k c' v (hc'.elim (fun r => by rw [r]; exact hc) fun r => at_ne e r exo_own) z)
        (fun c' r => (upd_ne (at_ne e r exo_own)).trans ((upd_ne (ne_of_none r fresh)).trans r)) (fun c' xs r => (upd_ne (at_ne e r exo_tup)).trans ((upd_ne (ne_of_none r fresh)).trans r))
/-- self.f = y on one that has its dict -/
theorem ostB_old (B : BaseB b ni ii) (T : OexB X.K C b ni) (I : Inv X pins σ H s) (e : H a = some (exo a C (some dx))) (ed : H dx = some (exd dx fs)) (hl : fs.length ≤ 900) (hno : PySem.W.findIn X.K (.ref C) f = some none) (ry : RelV y u)
    (h : ∀ s', Inv X pins σ (upd H dx (exd dx ((f, y) :: fs))) s' → Q () s') : wpAny (model X.prog X.w) A (setAttr (.ref a) f u) Q E s := by
  obtain ⟨cd, hcl, hm, hd⟩ := T.at_
  obtain ⟨t1, ho⟩ := exo_at I.hok e
  obtain ⟨mA, hns, rel⟩ := exd_at I.hok ed
  have hw := within_of rel
  obtain ⟨hp, g, d, t, os⟩ := s
  obtain ⟨oD, _, _, hoD, _, _⟩ := hns.count hw
  refine PySem.W.set_plain I.kIn (od := some oD) (ox := { cls := .ref C, dict := some dx, data := .fields #[.ref t1, .none, .none, .none, .bool false, .none] }) ⟨ho, rfl, rfl, hoD⟩ T.sa ?_
  refine osaB_old B.pass I.kIn ho hns hw (by rw [List.length_map]; omega) hcl hm hd hno fun h' tk' k hn => h _ (I.write (t' := tk') (x := dx) (e := dx) (o := exd dx ((f, y) :: fs)) (by rw [ed]; exact True.intro) (.inl rfl) k ?_ (exd_ok hn (relO_put ry rel)))
  obtain ⟨o, _, _, q, _⟩ := hn
  exact ⟨o, q⟩
/-- B.__init__(self, ..) -/
theorem oinitB {us : List Value} {Q : Value → Shared → Prop} (B : BaseB b ni ii) (T : OexB X.K C b ni) (I : Inv X pins σ H s) (e : H a = some (exo a C none)) (hl : us.length ≤ sizeLine) (h : ∀ s', Inv X pins σ H s' → Q .none s') :
    wpAny (model X.prog X.w) A (call (.builtin ii) (.ref a :: us)) Q E s := by
  obtain ⟨nm, q, N, bs, sn, sub, ab, col, dd, k0, k1, k2, k3, k5, hC⟩ := T.cls
  obtain ⟨t1, ho⟩ := exo_at I.hok e
  obtain ⟨hp, g, d, t, os⟩ := s
  refine wpAny_call (PySem.HandSPX.init_base B.f (fun Y => rfl) (I.kIn _ _ hC) ho hl fun h' t2 k hx => ?_)
  have J := I.write (t' := t) (x := a) (e := a) (o := exo a C none) (by rw [e]; exact True.intro) (.inl rfl) k ⟨_, hx⟩ (exo_ok hx)
  have same : upd H a (exo a C none) = H := funext fun c => by
    by_cases hc : c = a
    · rw [hc, upd_same, e]
    · exact upd_ne hc
  exact h _ (same ▸ J)
end
end DL

set_option maxHeartbeats 4000000
namespace DL
open PySem PySem.Spec PyProof.Rows L2
/-! ### what the head tells of such a class -/
def oexOk (K : PySem.W.Frag) (C : Addr) (b ni : String) : Bool := (match K.lookup C with
    | some ⟨.type "type", _, .cls cd, sl⟩ => (match cd.mro, sl.toList with
      | .ref C' :: bm, [_, _, _, _, some (.builtin n), _] => C' == C && (n == ni && (!cd.hasDel && (cd.hasDict && bm == blT b)))
      | _, _ => false)
    | _ => false) && (decide (PySem.W.findIn K (.ref C) "__setattr__" = some (some (.builtin "object.__setattr__"))) && (decide (PySem.W.subIn K (.ref C) (.type "BaseException") = some true) &&
      (decide (PySem.W.typeIn K (.ref C) = some (.type "type")) && PySem.W.keepIn K (.ref C))))
theorem oexOk_ok {K : PySem.W.Frag} {C : Addr} {b ni : String} (q : oexOk K C b ni = true) : OexB K C b ni := by
  unfold oexOk at q
  obtain ⟨q, h2⟩ := Bool.and_eq_true_iff.mp q
  obtain ⟨h2, h3⟩ := Bool.and_eq_true_iff.mp h2
  obtain ⟨h3, h4⟩ := Bool.and_eq_true_iff.mp h3
  obtain ⟨h4, h5⟩ := Bool.and_eq_true_iff.mp h4
  refine ⟨?_, of_decide_eq_true h2, of_decide_eq_true h3, of_decide_eq_true h4, h5⟩
  split at q
  · rename_i dd cd sl ho
    split at q
    · rename_i C' bm k0 k1 k2 k3 n k5 hm hs
      simp only [Bool.and_eq_true, beq_iff_eq, Bool.not_eq_true'] at q
      obtain ⟨rfl, rfl, hdel, hdi, rfl⟩ := q
      obtain ⟨nm, bs, mro, ns, qn, hd, sn, sub, ab, col, del⟩ := cd
      dsimp only at hm hdel hdi
      subst hm hdel hdi
      have hsl : sl = #[k0, k1, k2, k3, some (.builtin n), k5] := by
        obtain ⟨l⟩ := sl
        simp only at hs
        rw [hs]
      subst hsl
      exact ⟨nm, qn, ns, bs, sn, sub, ab, col, dd, k0, k1, k2, k3, k5, ho⟩
    · cases q
  · cases q
/-- B.__init__(self, ..) -/
def tBiI (K : PySem.W.Frag) (b ni : String) (ta : TA) : TE := fun σ H Q => ta σ H fun vs H1 => ∃ (a C : Addr) (ws : List V), vs = .ref a :: ws ∧ ws.length ≤ 1000 ∧ OexB K C b ni ∧ H1 a = some (exo a C none) ∧ Q .non H1
/-- self.f = e -/
def tOsB (K : PySem.W.Frag) (b ni : String) (f : Str) (to te : TE) : TS := fun D σ H => te σ H fun y H1 => to σ H1 fun x H2 => ∃ a C : Addr, x = .ref a ∧ OexB K C b ni ∧ PySem.W.findIn K (.ref C) f = some none ∧
  ((H2 a = some (exo a C none) ∧ ∀ dx, H2 dx = none → dx ≠ a → D.nx σ (upd (upd H2 dx (exd dx [(f, y)])) a (exo a C (some dx)))) ∨
    ∃ (dx : Addr) (fs : List (Str × V)), H2 a = some (exo a C (some dx)) ∧ H2 dx = some (exd dx fs) ∧ fs.length ≤ 900 ∧ D.nx σ (upd H2 dx (exd dx ((f, y) :: fs))))
/-- C(e, ..), by C's own __init__, which keeps sp -/
def tMkB (C : Addr) (sp : Sp) (ta : TA) : L2.St → Hp → XK → Prop := fun σ H Q => ta σ H fun vs H1 => vs.length ≤ 1000 ∧ ∀ a, H1 a = none → sp (.ref a :: vs) (upd H1 a (exo a C none))
  (fun v H2 => v = .non ∧ ∃ (d : Addr) (fs : List (Str × V)), H2 a = some (exo a C (some d)) ∧ H2 d = some (exd d fs) ∧ H1 d = none ∧ Q (.ref C) (some d) (upd (del H2 a) d (.xd fs))) (fun _ _ _ => False)
theorem typ_B {b : String} (h : b = "ValueError" ∨ b = "TypeError" ∨ b = "RuntimeError" ∨ b = "LookupError") : typeOf (.type b) = pure (.type "type") ∧ Manifest.isStub b = false := by
  rcases h with rfl | rfl | rfl | rfl <;> exact ⟨by kernel_rfl, by decide +kernel⟩
section
variable {X : Cx} {o e : Expr} {es : List Expr} {to te : TE} {ta : TA} {f : Str} {p p' p1 p2 pos : Pos} {b ni ii : String} {bx : Str}
theorem pe_biB {pl : Sem Bool} (B : BaseB b ni ii) (hg : Gl X bx) (hm : X.mg bx = none) (hv : bootBuiltins bx = some (.type b)) (tb : typeOf (.type b) = pure (.type "type") ∧ Manifest.isStub b = false)
    (vV : PySem.W.findCls X.K (.type b) (.type "type") "__init__" = some (.val (.builtin ii))) (hh : PySem.W.handedIn (.builtin ii) = true) (ha : PA X (e :: es) ta) (hn : bx ≠ "__name__" := by decide) (hdb : (bx == ("__debug__" : Str)) = false := by decide)
    (hc : eval (.Call (.Attribute (.Name bx p1) "__init__" p2) (e :: es) [] pos) X.env = (do
      let ov ← eval (.Name bx p1) X.env
      standAt p2.atName
      let (f, first) ← holding [ov] (getMethod ov "__init__" pl)
      callWith pos f first (backTo pos (starEach (e :: es) X.env)) (backToKw pos (keywordEach [] X.env))) := by rfl)
    (he : starEach (e :: es) X.env = (false, eval e X.env) :: starEach es X.env := by rfl) (hpl : (backTo pos (starEach es X.env)).any (·.1) = false := by rfl) :
    PE X (.Call (.Attribute (.Name bx p1) "__init__" p2) (e :: es) [] pos) (tBiI X.K b ni ta) := by
  refine ⟨fun pins s σ H Q I h => PySem.W.methodCall_KW (ld_blt I hg hm hv ?_ hn hdb) hc⟩
  obtain ⟨m, fr⟩ := I.fr
  refine PySem.W.method_type fr I.ok.mod.kin tb.1 tb.2 vV hh ?_
  show wpAny _ _ (callWith pos (Value.builtin ii) [] (backTo pos (starEach (e :: es) X.env)) []) _ _ _
  refine PyProof.Rows.callWith_method1 (thn (ha.run pos pins _ σ H _ (I.tok _) h) fun us z ⟨vs, H1, I1, r1, a, C, ws, ev, hl, T, ea, q⟩ => ?_) he hpl
  subst ev
  cases r1 with
  | @cons _ u0 _ ur ra rw' =>
    obtain rfl : u0 = Value.ref a := ra
    exact oinitB B T I1 ea (by rw [← Paired.length rw', sizeLine_eq]; omega) fun z' J => ⟨.non, H1, J, rfl, q⟩
theorem ps_osB (B : BaseB b ni ii) (ho : PE X o to) (he : PE X e te) (hs : swapsWith e (some (.Attribute o f p')) pos.line X.env = pure false := by rfl) : PS X (.Assign [.Attribute o f p'] e pos) (tOsB X.K b ni f to te) := by
  refine ⟨fun pins s σ H D I h => plainObj_wpAny_Assign_Attribute (thn (he.run pins s σ H _ I h) fun v z ⟨y, H1, I1, r1, q1⟩ => thn (ho.run pins z σ H1 _ I1 q1) fun u z2 ⟨x, H2, I2, r2, a, C, ex, T, hno, q⟩ => ?_) hs⟩
  subst ex
  obtain rfl : u = Value.ref a := r2
  rcases q with ⟨ea, q⟩ | ⟨dx, fs, ea, ed, hl, q⟩
  · exact ostB_new B T I2 ea hno r1 fun dx s' n ne J => ⟨σ, _, J, q dx n ne⟩
  · exact ostB_old B T I2 ea ed hl hno r1 fun s' J => ⟨σ, _, J, q⟩
theorem pmk_B {x : Str} {C fI : Addr} {k : Nat} {fd : FuncData} {ps : List Str} {sp : Sp} (B : BaseB b ni ii) (T : OexB X.K C b ni) (iC : PySem.W.findIn X.K (.ref C) "__init__" = some (some (.ref fI))) (tI : PySem.W.typeIn X.K (.ref fI) = some (.type "function"))
    (F1 : FnOk X.prog X.w X.K X.mg X.base CX0 k fI fd ps sp) (hr : Room (k + 1) X.A) (hb : Binds X.K fd ps []) (hg : Gl X x) (hm : X.mg x = some (.ref C)) (ha : PA X (e :: es) ta)
    (hdb : (x == ("__debug__" : Str)) = false := by decide) (he : starEach (e :: es) X.env = (false, eval e X.env) :: starEach es X.env := by rfl) (hpl : (backTo pos (starEach es X.env)).any (·.1) = false := by rfl) :
    L2N.PMk X (.Call (.Name x p) (e :: es) [] pos) (tMkB C sp ta) := by
  intro pins s σ H Q I h
  obtain ⟨nm, q, N, bs, sn, sub, ab, col, dd, k0, k1, k2, k3, k5, hC⟩ := T.cls
  refine wpAny_Call_Name_kw (ld_glob I hg hm ?_ hdb)
  refine PySem.W.callWith_K (h₀ := X.base) I.ok.mod.kin T.kC (thn (ha.run pos pins s σ H _ I h) fun us z ⟨vs, H1, I1, r1, hz, q1⟩ => ⟨I1.kIn, ?_⟩) he hpl
  show wpAny _ _ (call (.ref C) us) _ _ _
  obtain ⟨hp, g, dr, tk, os⟩ := z
  have n1 : hp.objs.size ≤ hp.objs.size + 1 := Nat.le_succ _
  have fr : H1 (hp.objs.size + 1) = none := I1.hok.fresh n1
  have todo := q1 (hp.objs.size + 1) fr
  have more : ∀ c o, hp.get? c = some o → ((hp.push (PySem.W.kdv_tup us)).push (PySem.HandSPX.excO C hp.objs.size)).get? c = some o := fun c o e => Heap.get?_push_of_some _ (Heap.get?_push_of_some _ e)
  have itself : ((hp.push (PySem.W.kdv_tup us)).push (PySem.HandSPX.excO C hp.objs.size)).get? (hp.objs.size + 1) = some (PySem.HandSPX.excO C hp.objs.size) := by heap_get
  have I2 : Inv X pins σ (upd H1 (hp.objs.size + 1) (exo (hp.objs.size + 1) C none)) ⟨(hp.push (PySem.W.kdv_tup us)).push (PySem.HandSPX.excO C hp.objs.size), g, dr, tk, os⟩ :=
    I1.laid (t' := tk) (a := hp.objs.size + 1) (o := exo (hp.objs.size + 1) C none) (h' := (hp.push (PySem.W.kdv_tup us)).push (PySem.HandSPX.excO C hp.objs.size)) more n1 (exo_ok itself)
  have r2 : Vals (V.ref (hp.objs.size + 1) :: vs) (Value.ref (hp.objs.size + 1) :: us) := .cons rfl r1
  have hl : (Value.ref (hp.objs.size + 1) :: us).length = ps.length := r2.length.symm.trans (F1.len _ _ _ _ todo)
  have bd := hb ⟨(hp.push (PySem.W.kdv_tup us)).push (PySem.HandSPX.excO C hp.objs.size), g, dr, tk, os⟩ (Value.ref (hp.objs.size + 1) :: us) I2.kIn (by rw [List.append_nil]; exact hl)
  rw [List.append_nil] at bd
  have usl : us.length ≤ sizeLine := by rw [← Paired.length r1, sizeLine_eq]; omega
  refine wpAny_call (PySem.HandSPX.call_own B.f (fun Y => rfl) (I1.kIn _ _ hC) (PySem.W.looks_findIn I1.kIn iC) (fun self => PySem.W.bind_fn I1.kIn self tI) usl
    (codeAny_mono (F1.run _ X.stack _ _ ⟨Value.ref (hp.objs.size + 1) :: us, []⟩ (Value.ref (hp.objs.size + 1) :: us) _ _ (fun _ _ _ => False) (hr.make C us []) (I2.env0.make C us []) bd r2 todo) fun r s' got => ?_))
  cases r with
  | error er => exact False.elim got
  | ok fl =>
    cases fl with
    | ret u =>
      obtain ⟨v, H2, os2, bare2, un2, hok2, rv, ev, d, fs, ea, ed, hd1, q2⟩ := got
      subst ev
      obtain ⟨h2, g2, d2, t2, os'⟩ := s'
      obtain ⟨t0, G, J, kG, ge, hoe, na⟩ := mk_end0 (d2 := d2) (t2 := t2) I1 n1 more un2 hok2 os2 bare2 ea ed hd1
      exact ⟨rv, ⟨_, _, _, ⟨G, g2, d2, t2, os'⟩, _, .ref C, some d, rfl, J, kG, ge, hoe, ⟨rfl, rfl, fun vs e => by cases e; rfl⟩, rfl, rfl, na, rfl, bare2, raises_own T.exC T.tyC, q2⟩⟩
    | next => exact False.elim got
    | brk => exact False.elim got
    | cont => exact False.elim got
/-- C(), C without an __init__ of its own -/
theorem pmk_none {C : Addr} {bmB : List Value} {B newId initId : String} {x : Str} (F : ExcBaseFacts B newId initId bmB) (q : PySem.W.excIn X.K C bmB newId = true) (gC : X.mg x = some (.ref C)) (kC : PySem.W.keepIn X.K (.ref C) = true) (r : Raises X (.ref C)) (hg : Gl X x)
    (hdb : (x == ("__debug__" : Str)) = false := by decide) : L2N.PMk X (.Call (.Name x p) [] [] pos) (fun _ H Q => Q (.ref C) none H) := by
  intro pins s σ H Q I h
  obtain ⟨bm, N, nm, qn, bs, hdct, sn, sub, ab, col, dd, k0, k1, k2, k3, k5, mN, hC, hN, hni, T⟩ := exc_obj I.kIn q
  refine wpAny_Call_Name_kw (ld_glob I hg gC (PySem.W.callWith_K0 I.kIn kC ?_) hdb)
  exact wpAny_call_exc_subT F T hC hN hni (fun h' e hm => L2N.mk_of I hm r h (I.hok.gone hm.new)) (Nat.zero_le _)
end
/-! ### the two sorts of __init__ that this program has -/
section
variable {P : Program} {w : World} {K : PySem.W.Frag} {mg : Str → Option Value} {base : Heap} {k : Nat} {f : Addr} {x qual : Str} {params : Arguments} {body : List Stmt} {scope : Scope} {fd : FuncData} {N ps : List Str} {b ni : String}
def spI1 (K : PySem.W.Frag) (b ni : String) (C : Addr) (f : Str) : Sp := fun vs H Q _ => ∃ (a : Addr) (x : V), vs = [.ref a, x] ∧ H a = some (exo a C none) ∧ ∀ d, H d = none → d ≠ a → Q .non (upd (upd H d (exd d [(f, x)])) a (exo a C (some d)))
def spI2 (K : PySem.W.Frag) (b ni : String) (C : Addr) (f g : Str) : Sp := fun vs H Q _ => ∃ (a : Addr) (x y : V), vs = [.ref a, x, y] ∧ H a = some (exo a C none) ∧ ∀ d, H d = none → d ≠ a → Q .non (upd (upd (upd H d (exd d [(f, x)])) a (exo a C (some d))) d (exd d [(g, y), (f, x)]))
theorem fnI_of {sp : Sp} (F : FunD K x qual params body scope [] [] f fd) (S : FnScope N ps scope) (lng : ∀ vs H Q E, sp vs H Q E → vs.length = ps.length)
    (hb : ∀ (cdv : Value) (A : Around) (outer : List Env) (s : Shared) (H : Hp) (vs : List V) (Q : VK) (E : XK), sp vs H Q E →
      ∃ t, PSs (cxOf CX0 P w K mg base N qual scope f cdv A outer s H E) body t ∧ t { nx := fun _ H' => Q .non H', rt := Q } (start N vs) H) : FnOk P w K mg base CX0 (k + 1) f fd ps sp := by
  obtain ⟨oc, od, dV, kV, doc, pm, an, cdv, ct, osl, rfl, lk, hcd, _⟩ := F.ex
  exact fn_of lk hcd S lng fun A outer s H vs Q E _ h => hb cdv A outer s H vs Q E h
theorem init1_ok {C a : Addr} {v : V} {f : Str} {H : Hp} {Q : VK} (T : OexB K C b ni) (hno : PySem.W.findIn K (.ref C) f = some none) (ea : H a = some (exo a C none)) (q : ∀ d, H d = none → d ≠ a → Q .non (upd (upd H d (exd d [(f, v)])) a (exo a C (some d)))) :
    tSeq (tDrop (tBiI K b ni (tCons (tVar 0) (tCons (tVar 1) tNil)))) (tOsB K b ni f (tVar 0) (tVar 1)) { nx := fun _ H' => Q .non H', rt := Q } [some (.ref a), some v] H :=
  ⟨.ref a, rfl, v, rfl, a, C, [v], rfl, by simp, T, ea, v, rfl, .ref a, rfl, a, C, rfl, T, hno, .inl ⟨ea, fun d h1 h2 => q d h1 h2⟩⟩
theorem init2_ok {C a : Addr} {v y : V} {f g : Str} {H : Hp} {Q : VK} (T : OexB K C b ni) (hno : PySem.W.findIn K (.ref C) f = some none) (hno2 : PySem.W.findIn K (.ref C) g = some none) (ea : H a = some (exo a C none))
    (q : ∀ d, H d = none → d ≠ a → Q .non (upd (upd (upd H d (exd d [(f, v)])) a (exo a C (some d))) d (exd d [(g, y), (f, v)]))) :
    tSeq (tDrop (tBiI K b ni (tCons (tVar 0) (tCons (tVar 1) (tCons (tVar 2) tNil))))) (tSeq (tOsB K b ni f (tVar 0) (tVar 1)) (tOsB K b ni g (tVar 0) (tVar 2))) { nx := fun _ H' => Q .non H', rt := Q } [some (.ref a), some v, some y] H :=
  ⟨.ref a, rfl, v, rfl, y, rfl, a, C, [v, y], rfl, by simp, T, ea, v, rfl, .ref a, rfl, a, C, rfl, T, hno, .inl ⟨ea, fun d h1 h2 =>
    ⟨y, rfl, .ref a, rfl, a, C, rfl, T, hno2, .inr ⟨d, [(f, v)], upd_same, by rw [upd_ne h2, upd_same], by simp, q d h1 h2⟩⟩⟩⟩
/-- C(e): its dict has the one field -/
theorem mkI1 {C : Addr} {f : Str} {ta : TA} {σ : L2.St} {H : Hp} {Q : XK} (h : ta σ H fun vs H1 => ∃ x, vs = [x] ∧ ∀ d, H1 d = none → Q (.ref C) (some d) (upd H1 d (.xd [(f, x)])))
    (mono : ∀ {P Q : List V → Hp → Prop}, ta σ H P → (∀ v H1, P v H1 → Q v H1) → ta σ H Q) : tMkB C (spI1 K b ni C f) ta σ H Q := mono h fun vs H1 ⟨x, e, q⟩ => by
  subst e
  refine ⟨by simp, fun a ha => ⟨a, x, rfl, upd_same, fun d hd hda => ⟨rfl, d, [(f, x)], upd_same, by rw [upd_ne hda, upd_same], by rw [upd_ne hda] at hd; exact hd, ?_⟩⟩⟩
  rw [upd_ne hda] at hd
  have e : upd (del (upd (upd (upd H1 a (exo a C none)) d (exd d [(f, x)])) a (exo a C (some d))) a) d (.xd [(f, x)]) = upd H1 d (.xd [(f, x)]) := funext fun c => by
    by_cases h1 : c = d
    · rw [h1, upd_same, upd_same]
    · rw [upd_ne h1, upd_ne h1]
      by_cases h2 : c = a
      · rw [h2, del_same, ha]
      · rw [del_ne h2, upd_ne h2, upd_ne h1, upd_ne h2]
  rw [e]
  exact q d hd
/-- C(e1, e2): two fields -/
theorem mkI2 {C : Addr} {f g : Str} {ta : TA} {σ : L2.St} {H : Hp} {Q : XK} (h : ta σ H fun vs H1 => ∃ x y, vs = [x, y] ∧ ∀ d, H1 d = none → Q (.ref C) (some d) (upd H1 d (.xd [(g, y), (f, x)])))
    (mono : ∀ {P Q : List V → Hp → Prop}, ta σ H P → (∀ v H1, P v H1 → Q v H1) → ta σ H Q) : tMkB C (spI2 K b ni C f g) ta σ H Q := mono h fun vs H1 ⟨x, y, e, q⟩ => by
  subst e
  refine ⟨by simp, fun a ha => ⟨a, x, y, rfl, upd_same, fun d hd hda => ⟨rfl, d, [(g, y), (f, x)], by rw [upd_ne (Ne.symm hda), upd_same], upd_same, by rw [upd_ne hda] at hd; exact hd, ?_⟩⟩⟩
  rw [upd_ne hda] at hd
  have e : upd (del (upd (upd (upd (upd H1 a (exo a C none)) d (exd d [(f, x)])) a (exo a C (some d))) d (exd d [(g, y), (f, x)])) a) d (.xd [(g, y), (f, x)]) = upd H1 d (.xd [(g, y), (f, x)]) := funext fun c => by
    by_cases h1 : c = d
    · rw [h1, upd_same, upd_same]
    · rw [upd_ne h1, upd_ne h1]
      by_cases h2 : c = a
      · rw [h2, del_same, ha]
      · rw [del_ne h2, upd_ne h1, upd_ne h2, upd_ne h1, upd_ne h2]
  rw [e]
  exact q d hd
end
end DL

set_option maxHeartbeats 4000000
namespace DL
open PySem PySem.Spec PyProof.Rows L2
/-! ### a caught exception that the heap's reading bears -/
def exH (a : Addr) (cls : Value) (d : Option Addr) : HO := .ext fun h => ∃ (oe : Obj) (vs : Array Value), h.get? a = some oe ∧ Zc cls d oe ∧ oe.data = .fields vs ∧ vs[2]? = some .none
theorem exH_ok {P : Program} {w : World} {H : Hp} {h : Heap} {a : Addr} {cls : Value} {d : Option Addr} {oe : Obj} {vs : Array Value} (e : h.get? a = some oe) (z : Zc cls d oe) (hd : oe.data = .fields vs) (h2 : vs[2]? = some .none) : ObjOk P w H h a (exH a cls d) :=
  ⟨⟨oe, vs, e, z, hd, h2⟩, ⟨oe, e⟩, fun _ _ ⟨o, v, q, r⟩ k => ⟨o, v, k o q, r⟩⟩
theorem exH_at {P : Program} {w : World} {H : Hp} {h : Heap} {a : Addr} {cls : Value} {d : Option Addr} (hok : HOk P w H h) (e : H a = some (exH a cls d)) : ∃ (oe : Obj) (vs : Array Value), h.get? a = some oe ∧ Zc cls d oe ∧ oe.data = .fields vs ∧ vs[2]? = some .none := by
  have x : ObjOk P w H h a (.ext fun h => ∃ (oe : Obj) (vs : Array Value), h.get? a = some oe ∧ Zc cls d oe ∧ oe.data = .fields vs ∧ vs[2]? = some .none) := hok a _ e
  exact x.1
section
variable {X : Cx} {pins : List (Addr × Obj)} {σ : L2.St} {H : Hp} {s : Shared}
theorem inv_track {a : Addr} {oe : Obj} {vs : Array Value} {cls : Value} {d : Option Addr} (I : Inv X pins σ H s) (ha : s.heap.get? a = some oe) (hd : oe.data = .fields vs) (h2 : vs[2]? = some .none) (hz : Zc cls d oe) (na : H a = none) (nL : a ≠ X.env.locals)
    (n0 : X.s_0.heap.get? a = none) (np : ∀ p ∈ X.pn ++ pins, p.1 ≠ a) : Inv X pins σ (upd H a (exH a cls d)) s := by
  have ne0 : ∀ c o, X.s_0.heap.get? c = some o → c ≠ a := fun c o e z => by rw [z, n0] at e; cases e
  refine ⟨I.ok, I.os, I.bare, ⟨I.base.keep, I.base.slot, fun c o e n hx => ?_, I.base.there, fun c xs e => ?_, fun c o u e => ?_, fun c ps e => ?_⟩, I.loc, I.cell, ?_, fun x c e => ?_, fun p hp => ?_, fun c o e => ?_, I.len⟩
  · rw [upd_ne (ne0 c o e)]; exact I.base.free c o e n hx
  · have q := I.base.tups c xs e
    rw [upd_ne (ne_of_none q na)]; exact q
  · have q := I.base.frzs c o u e
    rw [upd_ne (ne_of_none q na)]; exact q
  · obtain ⟨m, q⟩ := I.base.tbls c ps e
    exact ⟨m, by rw [upd_ne (ne_of_none q na)]; exact q⟩
  · rw [upd_ne (Ne.symm nL)]; exact I.free
  · have hca : c ≠ a := fun z => by
      obtain ⟨v, o, q1, q2⟩ := I.cell x c e
      rw [z, ha] at q1; cases q1
      rw [hd] at q2; cases q2
    rw [upd_ne hca]; exact I.freeC x c e
  · obtain ⟨q1, q2, q3, q4, q5⟩ := I.pin p hp
    exact ⟨q1, by rw [upd_ne (np p hp)]; exact q2, q3, q4, q5⟩
  · by_cases hc : c = a
    · subst hc; rw [upd_same] at e; cases e; exact exH_ok ha hz hd h2
    · rw [upd_ne hc] at e
      exact (I.hok c o e).stay (fun _ _ _ q => q) (fun c' q => by rw [upd_ne (ne_of_none q na)]; exact q) fun c' xs q => by rw [upd_ne (ne_of_none q na)]; exact q
theorem inv_suite {a : Addr} (I : Inv X pins σ H s) : Inv (X.suite a (X.pn ++ pins)) [] σ H s :=
  ⟨I.ok.suite _ _, I.os, I.bare, I.base, I.loc, I.cell, I.free, I.freeC, fun p hp => I.pin p (by rw [List.append_nil] at hp; exact hp), I.hok, I.len⟩
theorem inv_unsuite {a : Addr} (I : Inv (X.suite a (X.pn ++ pins)) [] σ H s) (ok : X.Ok) : Inv X pins σ H s :=
  ⟨ok, I.os, I.bare, I.base, I.loc, I.cell, I.free, I.freeC, fun p hp => I.pin p (by rw [List.append_nil]; exact hp), I.hok, I.len⟩
end
/-! ### try: .. except C as n: .., more than one of them -/
def Dun (i : Nat) (D : Ends) : Ends := { nx := fun σ H => D.nx (σ.set i none) H, rt := D.rt, bk := fun σ H => D.bk (σ.set i none) H, ct := fun σ H => D.ct (σ.set i none) H }
abbrev Cl := Value × (Addr → Value → Option Addr → TS)
def wAll (K : PySem.W.Frag) (Wout : WX) (D : Ends) (i : Nat) : List Cl → WX
  | [] => Wout
  | (c, ts) :: r => fun cls d σ H => ∃ b, PySem.W.exmOne K cls c = some b ∧ (b = true → ∀ a, H a = none → ts a cls d (Dun i D) (σ.set i (some (.ref a))) (upd H a (exH a cls d))) ∧ (b = false → wAll K Wout D i r cls d σ H)
inductive ClsOk (X : Cx) (n : Str) : List ExceptHandler → List Cl → Prop
  | nil : ClsOk X n [] []
  | cons {x : Str} {c : Value} {ts : Addr → Value → Option Addr → TS} {st : Stmt} {sts : List Stmt} {p q : Pos} {hds : List ExceptHandler} {l : List Cl} (hc : Names X x c) (hsu : ∀ (a : Addr) (cls : Value) (d : Option Addr) (pn : List (Addr × Obj)), PSs (X.suite a pn) (st :: sts) (ts a cls d))
      (r : ClsOk X n hds l) : ClsOk X n (.ExceptHandler (some (.Name x p)) (some n) (st :: sts) q :: hds) ((c, ts) :: l)
section
variable {X : Cx} {body : List Stmt} {h₀ : ExceptHandler} {hds : List ExceptHandler} {l : List Cl} {pos : Pos} {tb : WX → TS} {Wout : WX} {i : Nat} {n : Str}
theorem ps_tryAll (hs : X.stack = X.env :: X.outer) (hf : X.env.frame = some X.env.locals) (hex : X.ex = []) (hN : X.N.Nodup) (hi : X.N[i]? = some n) (hln : X.env.kindOf n = some .local) (tk : L2N.Takes X Wout)
    (hb : ∀ (W : WX) (pn : List (Addr × Obj)) (xe : Value → Shared → Prop), L2N.Takes (X.tr pn xe) W → PassesOwn (model X.prog X.w) X.A X.env xe → PSs (X.tr pn xe) body (tb W))
    (hh : ClsOk X n (h₀ :: hds) l) : PS X (.Try body (h₀ :: hds) [] [] pos) (fun D σ H => tb (wAll X.K Wout D i l) D σ H) := by
  refine ⟨fun pins s σ H D I h => ?_⟩
  have ok := I.ok
  have frm : X.A.frames = some (X.env :: X.outer) := by rw [ok.frames, hs]
  have lcl : Loc X.env.scope n := .inl hln
  refine wpAny_Try_except ?_
  refine wpAny_mono ((hb (wAll X.K Wout D i l) (X.pn ++ pins) (fun e s₁ => wpAny (model X.prog X.w) X.A (noteFrame e X.env) (fun _ s₂ => wpAny (model X.prog X.w) X.A (setFlight e none) (fun _ s₃ =>
    wpAny (model X.prog X.w) X.A (handleBy e X.env (h₀ :: hds)) (SP X pins D) X.xe s₃) X.xe s₂) X.xe s₁) (fun u s' xx => ?_) PassesOwn.looking).run [] s σ H D (I.toTry _) h) (fun f s1 hsp => ?_) (fun e s1 he => he)
  · obtain ⟨a, B, sI, pins', σ', H', cls, d, rfl, J', nb, up, sky, na, os, ag, w⟩ := xx
    have J : Inv X pins σ' H' sI := J'.ofTry ok
    have skyS : Sky B (X.env :: X.outer) a (L2N.Zn cls d) X.env.locals s'.heap := by rw [← hs]; exact sky
    show wpAny (model X.prog X.w) X.A (noteFrame (.ref a) X.env) _ _ _
    refine L2N.Sky.land L2N.Zn.steady frm hf skyS fun h3 fl3 up3 => ?_
    have J3 : Inv X pins σ' H' { s' with heap := h3 } := J.landed nb fl3.1 (up.trans up3) os ag
    obtain ⟨oe3, vs3, he3, hz3, hd3⟩ := fl3.there
    have nfr : a ∉ frs (X.env :: X.outer) := fun hm => by
      obtain ⟨_, o', e', hnf⟩ := fl3.2.2.1.mem hm
      rw [he3] at e'; cases e'
      exact hnf _ hd3
    have nL : a ≠ X.env.locals := fun z => nfr (List.mem_filterMap.mpr ⟨X.env, List.mem_cons_self, by rw [hf, z]⟩)
    have nb0 : B.get? a = none := fl3.2.1
    have n0 : X.s_0.heap.get? a = none := by
      cases e : X.s_0.heap.get? a with
      | none => rfl
      | some o =>
        obtain ⟨o', q⟩ := J.base.there a o e (by rw [hex]; exact fun z => nomatch z)
        have z := nb a o' q (by rw [show (X.tr (X.pn ++ pins) _).stack = X.env :: X.outer from hs]; exact nfr)
        rw [nb0] at z; cases z
    have np : ∀ p ∈ X.pn ++ pins, p.1 ≠ a := fun p hp z => by
      obtain ⟨q1, q2, q3, q4, q5⟩ := J.pin p hp
      have w := nb p.1 p.2 q1 (by rw [z, show (X.tr (X.pn ++ pins) _).stack = X.env :: X.outer from hs]; exact nfr)
      rw [z, nb0] at w; cases w
    have go : ∀ {hds' : List ExceptHandler} {l' : List Cl}, ClsOk X n hds' l' → wAll X.K Wout D i l' cls d σ' H' →
        wpAny (model X.prog X.w) X.A (handleBy (.ref a) X.env hds') (SP X pins D) X.xe { s' with heap := h3 } := by
      intro hds' l' hk
      induction hk with
      | nil =>
        intro w
        refine wpAny_handleBy_nil ?_
        obtain ⟨k1, k2, k3, oe, vs, T, oT, ts', he, hz, hd, h1, hr⟩ := id fl3
        unfold PySem.passOn
        refine wpAny_bind (wpAny_field he hd h1 ?_)
        rw [if_neg (show ¬ ((Value.ref T == Value.none) = true) from by simp)]
        have fin : wpAny (model X.prog X.w) X.A (setFlight (.ref a) X.env.frame) (fun _ s4 => wpAny (model X.prog X.w) X.A (throw (.ref a) : Sem Flow) (SP X pins D) X.xe s4) X.xe { s' with heap := h3 } := by
          rw [hf]
          refine HandSPX.setFlight_upZ fl3 fun h4 hh4 up4 => wpAny_throw (tk _ _ ?_)
          exact ⟨a, B, sI, pins, σ', H', cls, d, rfl, J, nb, (up.trans up3).trans up4, .inr (.inr (by rw [hs]; exact hh4)), na, os, ag, w⟩
        first
          | exact wpAny_bind (wpAny_pure (wpAny_bind fin))
          | exact wpAny_bind fin
      | @cons x c ts st sts p q hds2 l2 hc hsu r ih =>
        intro w
        obtain ⟨b, hb1, yes, no⟩ := w
        refine wpAny_handleBy_cons (codeAny_handlers_test ?_) (by intro q; cases q)
        have LT : PySem.W.Looks (model X.prog X.w) h3 (typeOf (.ref a)) cls := fun A Q E s k q => wpAny_typeOf_ref (k _ _ he3) (by rw [hz3.1]; exact q)
        have LM := PySem.W.exm_one (M := model X.prog X.w) J3.kIn LT hb1
        have test : ∀ {Q : Value → Shared → Prop} {E : Value → Shared → Prop}, Q c { s' with heap := h3 } → wpAny (model X.prog X.w) (X.A.mark (some (.ref a))) (eval (.Name x p) X.env) Q E { s' with heap := h3 } := fun {Q E} q => by
          obtain ⟨hg, hdbg, hm | ⟨hm, hv, hnn⟩⟩ := hc
          · exact ld_glob (X := X.suite a (X.pn ++ pins)) (inv_suite J3) hg hm q hdbg
          · exact ld_blt (X := X.suite a (X.pn ++ pins)) (inv_suite J3) hg hm hv q hnn hdbg
        refine test (LM.here ?_)
        cases b with
        | true =>
          refine codeAny_handlers_suite_as ?_
          refine HandSPX.lands_againZ fl3 fun h4 fl4 up4 => ?_
          have J4 : Inv X pins σ' H' { s' with heap := h4 } := J.landed nb fl4.1 ((up.trans up3).trans up4) os ag
          obtain ⟨oe4, vs4, he4, hz4, hd4⟩ := fl4.there
          have S4 := inv_suite (a := a) (inv_track J4 he4 hd4 (hz4.2.2 _ hd4) hz4.zc na nL n0 np)
          refine store_ok (X := X.suite a (X.pn ++ pins)) (v := .ref a) S4 hN hi lcl rfl (fun s5 S5 => ?_) (.inr hln)
          refine wpAny_mono ((hsu a cls d (X.pn ++ pins)).run [] s5 _ _ _ S5 (yes rfl a na)) (fun f s6 hsp => ?_) (fun _ _ z => False.elim z)
          have end_ : ∀ {σ6 : L2.St} {H6 : Hp} {Q : Shared → Prop}, Inv (X.suite a (X.pn ++ pins)) [] σ6 H6 s6 → (∀ s7, Inv X pins (σ6.set i none) H6 s7 → Q s7) →
              wpAny (model X.prog X.w) X.A (do bindName X.env n .none; unbindBehindTheSuite X.env n q) (fun _ s7 => Q s7) X.xe s6 := fun {σ6 H6 Q} S6 hq => gone_ok (inv_unsuite S6 ok) hN hi hln hq
          cases f with
          | next =>
            obtain ⟨σ6, H6, S6, q6⟩ := hsp
            exact end_ S6 fun s7 J7 => ⟨_, _, J7, q6⟩
          | brk =>
            obtain ⟨σ6, H6, S6, q6⟩ := hsp
            exact end_ S6 fun s7 J7 => ⟨_, _, J7, q6⟩
          | cont =>
            obtain ⟨σ6, H6, S6, q6⟩ := hsp
            exact end_ S6 fun s7 J7 => ⟨_, _, J7, q6⟩
          | ret u =>
            obtain ⟨v6, σ6, H6, S6, r6, q6⟩ := hsp
            exact end_ S6 fun s7 J7 => ⟨_, _, _, J7, r6, q6⟩
        | false =>
          show wpAny _ X.A (handleBy (.ref a) X.env hds2) _ _ _
          exact ih (no rfl)
    exact go hh w
  · cases f with
    | next =>
      obtain ⟨σ', H', J', q⟩ := hsp
      exact wpAny_execs_nil ⟨σ', H', J'.ofTry ok, q⟩
    | brk =>
      obtain ⟨σ', H', J', q⟩ := hsp
      exact ⟨σ', H', J'.ofTry ok, q⟩
    | cont =>
      obtain ⟨σ', H', J', q⟩ := hsp
      exact ⟨σ', H', J'.ofTry ok, q⟩
    | ret u =>
      obtain ⟨v, σ', H', J', r, q⟩ := hsp
      exact ⟨v, σ', H', J'.ofTry ok, r, q⟩
/-- e.f of an exception that the heap's reading bears -/
def tXH (K : PySem.W.Frag) (f : Str) (te : TE) : TE := fun σ H Q => te σ H fun x H1 => ∃ (a C dd : Addr) (fs : List (Str × V)) (v : V), x = .ref a ∧ XfC K C ∧ PySem.W.findIn K (.ref C) f = some none ∧ H1 a = some (exH a (.ref C) (some dd)) ∧ H1 dd = some (.xd fs) ∧ fs.lookup f = some v ∧ Q v H1
theorem pe_xH {e : Expr} {te : TE} {f : Str} (he : PE X e te) (hb : attributeBase e f X.env (eval e X.env) = eval e X.env := by rfl) : PE X (.Attribute e f pos) (tXH X.K f te) := by
  refine ⟨fun pins s σ H Q I h => attr_of hb (thn (he.run pins s σ H _ I h) fun u s1 ⟨x, H1, I1, rx, a, C, dd, fs, v, ex, T, hno, ea, ed, l, q⟩ => ?_)⟩
  subst ex
  obtain rfl : u = Value.ref a := rx
  obtain ⟨oe, vs, ha, hz, hd, _⟩ := exH_at I1.hok ea
  have hx : ObjOk X.prog X.w H1 s1.heap dd (.xd fs) := I1.hok dd _ ed
  obtain ⟨mA, hns, hr⟩ := hx
  obtain ⟨od, ho, hl⟩ := lookIn_ns hns
  obtain ⟨u, hu, ru⟩ := RelO.some_of (v := v) (o := mA f) (by rw [← l]; exact hr f)
  have J : PySem.W.InstAt s1.heap a oe C (some od) := ⟨ha, hz.1, by unfold PySem.W.notCls; rw [hd] <;> rfl, by rw [hz.2]; exact ho⟩
  exact HandSPX.exc_get I1.kIn J T.ga T.gg T.exC (PySem.W.findObj_own T.hdC hno rfl (by rw [hl, hu])) (handed_of ru) ⟨v, H1, I1.tok _, ru, q⟩
end
/-! ### a, b = x, y while an exception is handled -/
section
variable {prog : Program} {w : World} {A : Around} {E : Value → Shared → Prop} {s : Shared}
theorem next_end_hot {it t x1 : Addr} {i : Nat} {items : Array Value} {Q : Option Value → Shared → Prop} (hot : HotX.HotAt A x1 s.heap) (hit : IsTupIter s.heap it t i) (ht : IsTup s.heap t items) (hx : items[i]? = none)
    (hQ : ∀ h', (∀ b o, b ≠ it → s.heap.get? b = some o → h'.get? b = some o) → Q none { s with heap := h' }) : wpAny (model prog w) A (pyNext (.ref it)) Q E s := by
  obtain ⟨o, ho, hc, hd⟩ := id hit
  obtain ⟨ol, hol, _, nl, hdl⟩ := ht
  obtain ⟨hh, o1, v1, g1, d1, c1⟩ := hot
  have ne : x1 ≠ it := fun z => by
    rw [z, ho] at g1; cases g1
    rw [hd] at d1; cases d1
    simp at c1
    all_goals (first | exact absurd c1 (by simp) | cases c1)
  unfold pyNext
  refine wpAny_bind (wpAny_attempt (wpAny_callSpecial?_slot (name := Str.ofString "__next__") hit.typeIs slot_tupleiter_next
    (wpAny_call_entry slot_tupleiter_next hit.typeIs entry_tupleiter_next ?_ (args_tupleiter_next _))))
  show wpAny _ _ (field (.ref it) 0 >>= _) _ _ s
  refine wpAny_bind (wpAny_field ho hd (x := .ref t) rfl ?_)
  show wpAny _ _ (if (Value.ref t == Value.none) = true then _ else _) _ _ s
  rw [if_neg (show ¬ ((Value.ref t == Value.none) = true) from Bool.false_ne_true)]
  show wpAny _ _ (field (.ref it) 1 >>= _) _ _ s
  refine wpAny_bind (wpAny_field ho hd (x := .int i 0) rfl ?_)
  show wpAny _ _ (seqItems? (.ref t) >>= _) _ _ s
  refine wpAny_bind (wpAny_seqItems hol hdl ?_)
  simp only [Int.toNat_natCast, hx]
  refine wpAny_bind (wpAny_rule (wpAny_bind (wpAny_setField ho hd (by simp) ?_)))
  show wpAny _ _ (newExc (.type "StopIteration") [] >>= _) _ _ _
  refine wpAny_bind ?_
  simp only [newExc, newTuple]
  refine wpAny_bind (wpAny_newObj_type ?_ (by size_fits))
  refine wpAny_bind (m := firstArgMember _ _) (wpAny_of_eq (a := Value.none) (by first | rfl | (simp only [firstArgMember]; rfl)) ?_)
  refine wpAny_newObj_type ?_ (by size_fits)
  have g2 := (Heap.get?_update_other s.heap (Obj.mapFields (·.setIfInBounds 0 Value.none)) (Ne.symm ne)).trans g1
  refine HotX.raiseNew_hot ⟨hh, o1, v1, Heap.get?_push_of_some _ (Heap.get?_push_of_some _ g2), d1, c1⟩ (Nat.ne_of_lt (Heap.lt_size (Heap.get?_push_of_some _ g2))) (Heap.get?_push_size _ rfl) rfl (by first | (simp; done) | (simp; omega)) ?_
  refine wpAny_bind (wpAny_isInstance (T := "StopIteration") (b := true) ⟨_, Heap.get?_update_self _ (Heap.get?_push_size _ rfl) rfl, rfl⟩ isSubtype_stop ?_)
  refine wpAny_pure (hQ _ fun b o nb e => ?_)
  have e2 := (Heap.get?_update_other s.heap (Obj.mapFields (·.setIfInBounds 0 Value.none)) (Ne.symm nb)).trans e
  rw [Heap.get?_update_other _ _ (Nat.ne_of_gt (Heap.lt_size (Heap.get?_push_of_some _ e2)))]
  exact Heap.get?_push_of_some _ (Heap.get?_push_of_some _ e2)
theorem unpack_hot {t x1 : Addr} {items : Array Value} {Q : List Value → Shared → Prop} (hot : HotX.HotAt A x1 s.heap) (ht : IsTup s.heap t items)
    (hQ : ∀ h', (∀ b o, s.heap.get? b = some o → h'.get? b = some o) → Q items.toList { s with heap := h' }) : wpAny (model prog w) A (unpackItems (.ref t) items.size none) Q E s := by
  have hlt : t ≠ s.heap.objs.size := by obtain ⟨o, ho, _⟩ := ht; exact Nat.ne_of_lt (Heap.lt_size ho)
  obtain ⟨hh, o1, v1, g1, d1, c1⟩ := hot
  unfold unpackItems
  refine wpAny_bind ?_
  unfold notIterableAtAll
  refine wpAny_bind (wpAny_specialOf ht.typeIs slot_tuple_iter.lookup ?_)
  refine wpAny_pure ?_
  simp only [Bool.false_eq_true, if_false]
  refine wpAny_bind (wpAny_holding (iter_tuple ht ?_))
  refine wpAny_bind (wpAny_holding (draw_tuple hlt items.size 0 _ _ ⟨_, Heap.get?_push_size _ rfl, rfl, rfl⟩ (ht.push _) (by omega) fun h₁ hit₁ hs₁ => ?_))
  rw [show List.take items.size (List.drop 0 items.toList) = items.toList from by rw [List.drop_zero]; exact List.take_of_length_le (by simp)]
  rw [if_neg (by simp)]
  have k1 : ∀ b o, s.heap.get? b = some o → h₁.get? b = some o := fun b o e => (hs₁.2 b (Nat.ne_of_lt (Heap.lt_size e))).trans (Heap.get?_push_of_some _ e)
  refine wpAny_bind (wpAny_holding (next_end_hot (x1 := x1) ⟨hh, o1, v1, k1 _ _ g1, d1, c1⟩ hit₁ ((ht.push _).extBut hs₁.extBut hlt) (by simp) fun h₂ he₂ => ?_))
  simp only [Option.isSome_none, Bool.false_eq_true, if_false]
  exact wpAny_pure (hQ h₂ fun b o e => he₂ b o (Nat.ne_of_lt (Heap.lt_size e)) (k1 b o e))
end
/-- a, b = x, y in a suite: the caught exception stands at q -/
def tParH (q : Addr) (i j : Nat) (ta : TA) : TS := fun D σ H => ta σ H fun vs H1 => ∃ v w cls d, vs = [v, w] ∧ H1 q = some (exH q cls d) ∧ D.nx ((σ.set i (some v)).set j (some w)) H1
theorem ps_parH {X : Cx} {q : Addr} {i j : Nat} {x y : Str} {a b : Expr} {ta : TA} {px py pt pos : Pos} {kt k2 pt2} (hq : X.A.handled = some (.ref q)) (hN : X.N.Nodup) (hi : X.N[i]? = some x) (hj : X.N[j]? = some y) (hij : i ≠ j)
    (hx : X.env.scope.names.lookup x = some .local) (hy : X.env.scope.names.lookup y = some .local) (ha : PA X [a, b] ta)
    (hw : swappedStores [.Tuple [.Name x px, .Name y py] kt pt] (.Tuple [a, b] k2 pt2) X.env = pure (some [x, y]))
    (hs : swapsWithSole [.Tuple [.Name x px, .Name y py] kt pt] (.Tuple [a, b] k2 pt2) pos.line X.env = pure false := by rfl) :
    PS X (.Assign [.Tuple [.Name x px, .Name y py] kt pt] (.Tuple [a, b] k2 pt2) pos) (tParH q i j ta) := by
  refine ⟨fun pins s σ H D I h => ?_⟩
  rw [exec_Assign_arm]
  refine wpAny_bind (wpAny_standAt ?_)
  rw [hs]
  refine wpAny_bind (wpAny_pure ?_)
  rw [if_neg (by decide)]
  refine wpAny_bind (Tuple_ (thn (ha.run _ pins s σ H _ I h) fun us s1 ⟨vs, H1, I1, r1, v, w, cls, d, e1, eq, q1⟩ => ?_))
  subst e1
  obtain ⟨u1, u2, rfl, rv, rw'⟩ : ∃ u1 u2, us = [u1, u2] ∧ RelV v u1 ∧ RelV w u2 := by
    cases r1 with
    | cons p q =>
      cases q with
      | cons p' q' => cases q'; exact ⟨_, _, rfl, p, p'⟩
  refine wpAny_newObj_type ?_ (by show 2 ≤ sizeLine; decide)
  have I2 : Inv X pins σ H1 { s1 with heap := s1.heap.push { cls := .type "tuple", data := .seq [u1, u2].toArray } } := I1.kept (t' := s1.toks) fun b o e => Heap.get?_push_of_some _ e
  obtain ⟨oe, ve, g1, _, d1, c1⟩ := exH_at I2.hok eq
  rw [hw]
  refine wpAny_bind (wpAny_pure ?_)
  show wpAny (model X.prog X.w) X.A (do rule "assign.swapped-stores"; let items ← unpackItems (.ref s1.heap.objs.size) 2 none; assignInOrder [fun v => bindName X.env y v, fun v => bindName X.env x v] items.reverse; pure Flow.next) _ _ _
  refine wpAny_bind (wpAny_rule (wpAny_bind (unpack_hot (x1 := q) (items := #[u1, u2]) ⟨hq, oe, ve, g1, d1, c1⟩ (IsTup.new s1.heap _) fun h' hx' => ?_)))
  have I3 := I2.kept (h' := h') (t' := s1.toks) hx'
  show wpAny _ _ (assignInOrder [fun v => bindName X.env y v, fun v => bindName X.env x v] [u2, u1] >>= fun _ => pure Flow.next) _ _ _
  refine wpAny_bind (assignInOrder_cons (wpAny_bindName (store_ok I3 hN hj (.inl hy) rw' (fun s2 I4 => ?_) (.inr hy))))
  refine assignInOrder_cons (wpAny_bindName (store_ok I4 hN hi (.inl hx) rv (fun s3 I5 => assignInOrder_nil (wpAny_pure ?_)) (.inr hx)))
  rw [List.set_comm _ _ (Ne.symm hij)] at I5
  exact ⟨_, H1, I5, q1⟩
/-- what the class must be for isinstance to be asked of its instances -/
structure IsC (K : PySem.W.Frag) (D : Addr) : Prop where
  hc : (PySem.W.clsIn K D).isSome = true
  hg : PySem.W.findIn K (.ref D) "__getattribute__" = some (some (.builtin "BaseException.__getattribute__"))
  hk : PySem.W.findIn K (.ref D) "__getattr__" = some none
  hs : PySem.W.subIn K (.ref D) (.type "BaseException") = some true
  ha : PySem.W.findIn K (.ref D) "__class__" = some (some (.builtin "object.__class__"))
  hn : PySem.W.specialIn K (.builtin "object.__class__") "__get__" = some (some (.builtin "getset_descriptor.__get__"))
  ht : PySem.W.takesIn K (.builtin "object.__class__") = some true
  hm : PySem.W.mroIn K D (.type "object") = some true
def isCB (K : PySem.W.Frag) (D : Addr) : Bool := (PySem.W.clsIn K D).isSome && (decide (PySem.W.findIn K (.ref D) "__getattribute__" = some (some (.builtin "BaseException.__getattribute__"))) && (decide (PySem.W.findIn K (.ref D) "__getattr__" = some none) &&
  (decide (PySem.W.subIn K (.ref D) (.type "BaseException") = some true) && (decide (PySem.W.findIn K (.ref D) "__class__" = some (some (.builtin "object.__class__"))) && (decide (PySem.W.specialIn K (.builtin "object.__class__") "__get__" = some (some (.builtin "getset_descriptor.__get__"))) &&
  (decide (PySem.W.takesIn K (.builtin "object.__class__") = some true) && decide (PySem.W.mroIn K D (.type "object") = some true)))))))
theorem isCB_ok {K : PySem.W.Frag} {D : Addr} (h : isCB K D = true) : IsC K D := by
  obtain ⟨h1, h⟩ := Bool.and_eq_true_iff.mp h
  obtain ⟨h2, h⟩ := Bool.and_eq_true_iff.mp h
  obtain ⟨h3, h⟩ := Bool.and_eq_true_iff.mp h
  obtain ⟨h4, h⟩ := Bool.and_eq_true_iff.mp h
  obtain ⟨h5, h⟩ := Bool.and_eq_true_iff.mp h
  obtain ⟨h6, h⟩ := Bool.and_eq_true_iff.mp h
  obtain ⟨h7, h8⟩ := Bool.and_eq_true_iff.mp h
  exact ⟨h1, of_decide_eq_true h2, of_decide_eq_true h3, of_decide_eq_true h4, of_decide_eq_true h5, of_decide_eq_true h6, of_decide_eq_true h7, of_decide_eq_true h8⟩
/-- isinstance(e, c) of such an exception -/
def rIsH (K : PySem.W.Frag) : List V → Hp → VK → Prop := fun xs H Q => ∃ (a D : Addr) (dd : Option Addr) (c : V) (cv : Value) (b : Bool), xs = [.ref a, c] ∧ IsC K D ∧ H a = some (exH a (.ref D) dd) ∧ (∀ z, dd = some z → ∃ fs, H z = some (.xd fs)) ∧ ClsV c cv ∧ PySem.W.kitOne K (.ref D) cv = some b ∧ Q (.bl b) H
theorem call_isH {X : Cx} : CallR X (.builtin "isinstance") (rIsH X.K) := by
  intro pins s σ H xs us Q I r h
  obtain ⟨a, D, dd, c, cv, b, rfl, C, ea, hdd, hcv, e, q⟩ := h
  cases r with
  | cons rx rr =>
    cases rr with
    | cons rt rr =>
      cases rr
      cases rx
      have ec := hcv.eq rt
      subst ec
      obtain ⟨oe, vs, ha, hz, hd, _⟩ := exH_at I.hok ea
      have nc : PySem.W.notCls oe := by unfold PySem.W.notCls; rw [hd] <;> rfl
      cases dd with
      | none =>
        have J : PySem.W.InstAt s.heap a oe D none := ⟨ha, hz.1, nc, by rw [hz.2]; trivial⟩
        exact PySem.W.kia_one (PySem.W.kitx_exc C.hc C.hg C.hk C.hs C.ha C.hn C.ht C.hm) I.kIn J e (fun z => nomatch z) fun tk => ⟨.bl b, H, I.kept (t' := tk) fun _ _ z => z, rfl, q⟩
      | some z =>
        obtain ⟨fs, hz2⟩ := hdd z rfl
        have hx : ObjOk X.prog X.w H s.heap z (.xd fs) := I.hok z _ hz2
        obtain ⟨mA, hns, hr⟩ := hx
        obtain ⟨od, ho, hl⟩ := lookIn_ns hns
        have J : PySem.W.InstAt s.heap a oe D (some od) := ⟨ha, hz.1, nc, by rw [hz.2]; exact ho⟩
        exact PySem.W.kia_one (PySem.W.kitx_exc C.hc C.hg C.hk C.hs C.ha C.hn C.ht C.hm) I.kIn J e (fun z => nomatch z) fun tk => ⟨.bl b, H, I.kept (t' := tk) fun _ _ z => z, rfl, q⟩
end DL

set_option maxHeartbeats 4000000
namespace DL
open PySem PySem.Spec PyProof.Rows L2
theorem boot_ValueError : bootBuiltins "ValueError" = some (.type "ValueError") := by decide +kernel
theorem boot_TypeError : bootBuiltins "TypeError" = some (.type "TypeError") := by decide +kernel
theorem boot_RuntimeError : bootBuiltins "RuntimeError" = some (.type "RuntimeError") := by decide +kernel
theorem boot_LookupError : bootBuiltins "LookupError" = some (.type "LookupError") := by decide +kernel
/-- the statement i of a class's body -/
def inCls (s : Stmt) (i : Nat) : Stmt := match s with
  | .ClassDef _ _ _ body _ _ _ _ _ _ _ => body.getD i (.Pass ⟨0, 0, 0, 0⟩)
  | _ => .Pass ⟨0, 0, 0, 0⟩
/-- an exception class x over b whose __init__ stores the fields fs -/
structure ClsI (K : PySem.W.Frag) (x : Str) (b ni ii : String) (fs : List Str) : Prop where
  o : OexB K (He.ga K x) b ni
  iC : PySem.W.findIn K (.ref (He.ga K x)) "__init__" = some (some (.ref (He.ma K (He.ga K x) "__init__")))
  tI : PySem.W.typeIn K (.ref (He.ma K (He.ga K x) "__init__")) = some (.type "function")
  no : ∀ f ∈ fs, PySem.W.findIn K (.ref (He.ga K x)) f = some none
  xf : XfC K (He.ga K x)
  is : IsC K (He.ga K x)
  vi : PySem.W.findCls K (.type b) (.type "type") "__init__" = some (.val (.builtin ii))
def viB (K : PySem.W.Frag) (b ii : String) : Bool := match PySem.W.findCls K (.type b) (.type "type") "__init__" with
  | some (.val (.builtin z)) => z == ii
  | _ => false
theorem viB_ok {K : PySem.W.Frag} {b ii : String} (h : viB K b ii = true) : PySem.W.findCls K (.type b) (.type "type") "__init__" = some (.val (.builtin ii)) := by
  unfold viB at h
  split at h
  · rename_i z e
    rw [e, beq_iff_eq.mp h]
  · cases h
def clsIB (K : PySem.W.Frag) (x : Str) (b ni ii : String) (fs : List Str) : Bool := oexOk K (He.ga K x) b ni && (decide (PySem.W.findIn K (.ref (He.ga K x)) "__init__" = some (some (.ref (He.ma K (He.ga K x) "__init__")))) &&
  (decide (PySem.W.typeIn K (.ref (He.ma K (He.ga K x) "__init__")) = some (.type "function")) && ((fs.all fun f => decide (PySem.W.findIn K (.ref (He.ga K x)) f = some none)) && (xfB K (He.ga K x) && (isCB K (He.ga K x) && viB K b ii)))))
theorem clsIB_ok {K : PySem.W.Frag} {x : Str} {b ni ii : String} {fs : List Str} (h : clsIB K x b ni ii fs = true) : ClsI K x b ni ii fs := by
  obtain ⟨h1, h⟩ := Bool.and_eq_true_iff.mp h
  obtain ⟨h2, h⟩ := Bool.and_eq_true_iff.mp h
  obtain ⟨h3, h⟩ := Bool.and_eq_true_iff.mp h
  obtain ⟨h4, h⟩ := Bool.and_eq_true_iff.mp h
  obtain ⟨h5, h⟩ := Bool.and_eq_true_iff.mp h
  obtain ⟨h6, h7⟩ := Bool.and_eq_true_iff.mp h
  exact ⟨oexOk_ok h1, of_decide_eq_true h2, of_decide_eq_true h3, fun f hf => of_decide_eq_true (List.all_eq_true.mp h4 f hf), xfB_ok h5, isCB_ok h6, viB_ok h7⟩
/-- an exception class over b without an __init__ of its own -/
structure ClsN (K : PySem.W.Frag) (x : Str) (b ni : String) : Prop where
  ex : PySem.W.excIn K (He.ga K x) (blT b) ni = true
  kp : PySem.W.keepIn K (.ref (He.ga K x)) = true
  sb : PySem.W.subIn K (.ref (He.ga K x)) (.type "BaseException") = some true
  ty : PySem.W.typeIn K (.ref (He.ga K x)) = some (.type "type")
  is : IsC K (He.ga K x)
def clsNB (K : PySem.W.Frag) (x : Str) (b ni : String) : Bool := PySem.W.excIn K (He.ga K x) (blT b) ni && (PySem.W.keepIn K (.ref (He.ga K x)) && (decide (PySem.W.subIn K (.ref (He.ga K x)) (.type "BaseException") = some true) &&
  (decide (PySem.W.typeIn K (.ref (He.ga K x)) = some (.type "type")) && isCB K (He.ga K x))))
theorem clsNB_ok {K : PySem.W.Frag} {x : Str} {b ni : String} (h : clsNB K x b ni = true) : ClsN K x b ni := by
  obtain ⟨h1, h⟩ := Bool.and_eq_true_iff.mp h
  obtain ⟨h2, h⟩ := Bool.and_eq_true_iff.mp h
  obtain ⟨h3, h⟩ := Bool.and_eq_true_iff.mp h
  obtain ⟨h4, h5⟩ := Bool.and_eq_true_iff.mp h
  exact ⟨h1, h2, of_decide_eq_true h3, of_decide_eq_true h4, isCB_ok h5⟩
section
variable {P : Program} {w : World} {K : PySem.W.Frag} {mg : Str → Option Value} {base : Heap} {CX : CXT} {k : Nat} {f : Addr} {fd : FuncData} {ps : List Str} {sp : Sp}
theorem notyetS (h : ∀ vs H Q E, ¬ sp vs H Q E) : FnG P w K mg base CX k f fd ps sp := ⟨fun vs H Q E z => (h vs H Q E z).elim, fun A outer s H args us vs Q E _ _ _ _ z => (h vs H Q E z).elim⟩
/-- what the heap had stands on -/
theorem frm0_none {H H' : Hp} {p : Addr} (f : Frm F0 H H') (h : H' p = none) : H p = none := by
  cases e : H p with
  | none => rfl
  | some o => exact absurd h (f.on p (by rw [e]; exact fun z => nomatch z))
theorem frm0_at {H H' : Hp} {p : Addr} {o : HO} (f : Frm F0 H H') (h : H p = some o) : H' p = some o := f.eq p o h id
theorem frm0_ne {H : Hp} {p q : Addr} {o : HO} (h : H q = some o) (n : H p = none) : q ≠ p := fun e => by rw [e, n] at h; cases h
theorem frm0_new {H H' : Hp} {p : Addr} {o : HO} (f : Frm F0 H H') (h : H' p = none) : Frm F0 H (upd H' p o) := f.trans' (Frm.new h)
end
end DL

set_option maxHeartbeats 4000000
namespace DL
open PySem PySem.Spec PyProof.Rows L2
/-! ### the five refusals -/
def nm5 : Nat → Str
  | 0 => "NoText"
  | 1 => "NoKinds"
  | 2 => "Clash"
  | 3 => "Endless"
  | _ => "NoLine"
def bs4 : Nat → String
  | 0 => "ValueError"
  | 1 => "TypeError"
  | 2 => "RuntimeError"
  | _ => "LookupError"
def bof (i : Nat) : Nat := if i = 4 then 0 else i
abbrev ad5 (K : PySem.W.Frag) (i : Nat) : Addr := He.ga K (nm5 i)
structure ExT (K : PySem.W.Frag) : Prop where
  exm : ∀ i j, i < 5 → j < 5 → PySem.W.exmOne K (.ref (ad5 K i)) (.ref (ad5 K j)) = some (i == j)
  kit : ∀ i j, i < 5 → j < 5 → PySem.W.kitOne K (.ref (ad5 K i)) (.ref (ad5 K j)) = some (i == j)
  kib : ∀ i j, i < 5 → j < 4 → PySem.W.kitOne K (.ref (ad5 K i)) (.type (bs4 j)) = some (bof i == j)
  is : ∀ i, i < 5 → IsC K (ad5 K i)
def exT (K : PySem.W.Frag) : Bool := (List.range 5).all fun i => ((List.range 5).all fun j => decide (PySem.W.exmOne K (.ref (ad5 K i)) (.ref (ad5 K j)) = some (i == j)) && decide (PySem.W.kitOne K (.ref (ad5 K i)) (.ref (ad5 K j)) = some (i == j))) &&
  (((List.range 4).all fun j => decide (PySem.W.kitOne K (.ref (ad5 K i)) (.type (bs4 j)) = some (bof i == j))) && isCB K (ad5 K i))
theorem exT_ok {K : PySem.W.Frag} (h : exT K = true) : ExT K := by
  have at_ := fun i hi => Bool.and_eq_true_iff.mp (List.all_eq_true.mp h i (List.mem_range.mpr hi))
  have e5 := fun i j hi hj => Bool.and_eq_true_iff.mp (List.all_eq_true.mp (at_ i hi).1 j (List.mem_range.mpr hj))
  exact ⟨fun i j hi hj => of_decide_eq_true (e5 i j hi hj).1, fun i j hi hj => of_decide_eq_true (e5 i j hi hj).2,
    fun i j hi hj => of_decide_eq_true (List.all_eq_true.mp (Bool.and_eq_true_iff.mp (at_ i hi).2).1 j (List.mem_range.mpr hj)), fun i hi => isCB_ok (Bool.and_eq_true_iff.mp (at_ i hi).2).2⟩
def clsL (i : Nat) : List Bool := [i == 0, i == 1, i == 2, i == 3, i == 4, bof i == 0, bof i == 1, bof i == 2, bof i == 3]
def vals5 (i : Nat) {α : Type} (x y : α) : List α := match i with
  | 0 => [x]
  | 1 => [x]
  | 2 => [x, y]
  | 3 => [x]
  | _ => []
def fRaised : Fn := fun Bs => match Bs with
  | [B.v (.int n), B.v x, B.v y] => if 0 ≤ n ∧ n < 5 then some (.tuple [.list ((clsL n.toNat).map .bool), .list (vals5 n.toNat x y)], []) else none
  | _ => none
def spCl (K : PySem.W.Frag) (fn : Fn) : Sp := fun vs H Q _ => (fn []).isSome = true ∧ ∃ (a : Addr) (i : Nat) (dd : Option Addr), vs = [.ref a] ∧ i < 5 ∧ H a = some (exH a (.ref (ad5 K i)) dd) ∧ (∀ z, dd = some z → ∃ fs, H z = some (.xd fs)) ∧
  ∀ p H', Frm F0 H H' → H p = none → H' p = some (.lst ((clsL i).map V.bl)) → Q (.ref p) H'
abbrev isx (K : PySem.W.Frag) (c : V) : TE := tCB (rIsH K) (tCons (tVar 0) (tCons (tC c) tNil))
/-- a refusal is at hand -/
structure HasE (K : PySem.W.Frag) (a : Addr) (i : Nat) (dd : Option Addr) (H : Hp) : Prop where
  at_ : H a = some (exH a (.ref (ad5 K i)) dd)
  dic : ∀ z, dd = some z → ∃ fs, H z = some (.xd fs)
theorem HasE.go {K : PySem.W.Frag} {a : Addr} {i : Nat} {dd : Option Addr} {H H' : Hp} (h : HasE K a i dd H) (f : Frm F0 H H') : HasE K a i dd H' :=
  ⟨frm0_at f h.at_, fun z e => let ⟨fs, q⟩ := h.dic z e; ⟨fs, frm0_at f q⟩⟩
section
variable {K : PySem.W.Frag} {a : Addr} {i : Nat} {dd : Option Addr} {H : Hp} {σ : L2.St} {Q : VK}
theorem isx_own {j : Nat} (T : ExT K) (h0 : σ[0]? = some (some (.ref a))) (hi : i < 5) (hj : j < 5) (h : HasE K a i dd H) (q : Q (.bl (i == j)) H) : isx K (.ref (ad5 K j)) σ H Q :=
  ⟨.ref a, h0, a, _, dd, _, _, _, rfl, T.is i hi, h.at_, h.dic, .own _, T.kit i j hi hj, q⟩
theorem isx_ty {j : Nat} (T : ExT K) (h0 : σ[0]? = some (some (.ref a))) (hi : i < 5) (hj : j < 4) (h : HasE K a i dd H) (q : Q (.bl (bof i == j)) H) : isx K (.ty (bs4 j)) σ H Q :=
  ⟨.ref a, h0, a, _, dd, _, _, _, rfl, T.is i hi, h.at_, h.dic, .ty _, T.kib i j hi hj, q⟩
theorem cl_ok (T : ExT K) (hi : i < 5) (h : HasE K a i dd H) {N : Hp → Prop} (q : ∀ p H', Frm F0 H H' → H p = none → H' p = some (.lst ((clsL i).map V.bl)) → Q (.ref p) H') :
    tSeq (tAsg (tLst (tCons (isx K (.ref (ad5 K 0))) (tCons (isx K (.ref (ad5 K 1))) (tCons (isx K (.ref (ad5 K 2))) tNil)))) (gName 1))
      (tSeq (tAsg (tOp rCatR (tVar 1) (tLst (tCons (isx K (.ref (ad5 K 3))) (tCons (isx K (.ref (ad5 K 4))) (tCons (isx K (.ty (bs4 0))) tNil))))) (gName 1))
        (tRet (tOp rCatR (tVar 1) (tLst (tCons (isx K (.ty (bs4 1))) (tCons (isx K (.ty (bs4 2))) (tCons (isx K (.ty (bs4 3))) tNil)))))))
      { nx := fun _ H' => N H', rt := Q } [some (.ref a), none] H := by
  have z3 : ∀ x y z : V, [x, y, z].length ≤ sizeLine := fun _ _ _ => by rw [sizeLine_eq]; show 3 ≤ _; decide
  have z6 : ∀ a b c x y z : V, [a, b, c].length + [x, y, z].length ≤ sizeLine := fun _ _ _ _ _ _ => by rw [sizeLine_eq]; show 6 ≤ _; decide
  have z9 : ∀ a b c d e f x y z : V, ([a, b, c] ++ [d, e, f]).length + [x, y, z].length ≤ sizeLine := fun _ _ _ _ _ _ _ _ _ => by rw [sizeLine_eq]; show 9 ≤ _; decide
  refine isx_own T rfl hi (by decide) h (isx_own T rfl hi (by decide) h (isx_own T rfl hi (by decide) h ⟨z3 _ _ _, fun p1 h1 => ?_⟩))
  have f1 := Frm.new (o := .lst [.bl (i == 0), .bl (i == 1), .bl (i == 2)]) h1
  have e1 : upd H p1 (.lst [.bl (i == 0), .bl (i == 1), .bl (i == 2)]) p1 = some (.lst [.bl (i == 0), .bl (i == 1), .bl (i == 2)]) := upd_same
  have h' := h.go f1
  show tSeq _ _ _ [some (.ref a), some (.ref p1)] (upd H p1 (.lst [.bl (i == 0), .bl (i == 1), .bl (i == 2)]))
  generalize upd H p1 (.lst [.bl (i == 0), .bl (i == 1), .bl (i == 2)]) = H1 at f1 e1 h'
  refine ⟨.ref p1, rfl, isx_own T rfl hi (by decide) h' (isx_own T rfl hi (by decide) h' (isx_ty T rfl hi (by decide) h' ⟨z3 _ _ _, fun p2 h2 => ⟨p1, p2, [.bl (i == 0), .bl (i == 1), .bl (i == 2)], [.bl (i == 3), .bl (i == 4), .bl (bof i == 0)], rfl, rfl, .inl ?_, .inl upd_same, z6 _ _ _ _ _ _, fun p3 h3 => ?_⟩⟩))⟩
  · exact frm0_at (Frm.new h2) e1
  have f2 := f1.trans' (Frm.new (o := .lst [.bl (i == 3), .bl (i == 4), .bl (bof i == 0)]) h2)
  have f3 := frm0_new (o := .lst ([V.bl (i == 0), .bl (i == 1), .bl (i == 2)] ++ [.bl (i == 3), .bl (i == 4), .bl (bof i == 0)])) f2 h3
  have h3' := h.go f3
  have e3 := upd_same (H := upd H1 p2 (.lst [.bl (i == 3), .bl (i == 4), .bl (bof i == 0)])) (a := p3) (o := .lst ([V.bl (i == 0), .bl (i == 1), .bl (i == 2)] ++ [.bl (i == 3), .bl (i == 4), .bl (bof i == 0)]))
  dsimp only [gName, List.set]
  generalize upd (upd H1 p2 (.lst [.bl (i == 3), .bl (i == 4), .bl (bof i == 0)])) p3 (.lst ([V.bl (i == 0), .bl (i == 1), .bl (i == 2)] ++ [.bl (i == 3), .bl (i == 4), .bl (bof i == 0)])) = H3 at f3 h3' e3
  refine ⟨.ref p3, rfl, isx_ty T rfl hi (by decide) h3' (isx_ty T rfl hi (by decide) h3' (isx_ty T rfl hi (by decide) h3' ⟨z3 _ _ _, fun p4 h4 => ⟨p3, p4, [.bl (i == 0), .bl (i == 1), .bl (i == 2)] ++ [.bl (i == 3), .bl (i == 4), .bl (bof i == 0)], [.bl (bof i == 1), .bl (bof i == 2), .bl (bof i == 3)], rfl, rfl, .inl ?_, .inl upd_same, z9 _ _ _ _ _ _ _ _ _, fun p5 h5 => ?_⟩⟩))⟩
  · exact frm0_at (Frm.new h4) e3
  have f4 := f3.trans' (Frm.new (o := .lst [.bl (bof i == 1), .bl (bof i == 2), .bl (bof i == 3)]) h4)
  exact q p5 _ (frm0_new f4 h5) (frm0_none f4 h5) upd_same
end
end DL

set_option maxHeartbeats 4000000
namespace DL
open PySem PySem.Spec PyProof.Rows L2
abbrev tst (n : Int) : TT := tTest (tOp rEq (tVar 0) (tC (.int n)))
abbrev rsW (t : L2.St → Hp → XK → Prop) (W : WX) : TS := fun _ σ H => t σ H fun cls d H' => W cls d σ H'
abbrev su1 (K : PySem.W.Frag) (f : Str) (a : Addr) : TS := tParH a 3 4 (tCons (tVar 5) (tCons (tLst (tCons (tXH K f (tVar 5)) tNil)) tNil))
abbrev su2 (K : PySem.W.Frag) (f g : Str) (a : Addr) : TS := tParH a 3 4 (tCons (tVar 5) (tCons (tLst (tCons (tXH K f (tVar 5)) (tCons (tXH K g (tVar 5)) tNil))) tNil))
def cls5 (K : PySem.W.Frag) : List Cl := [(.ref (ad5 K 0), fun a _ _ => su1 K ("row" : Str) a), (.ref (ad5 K 1), fun a _ _ => su1 K ("place" : Str) a), (.ref (ad5 K 2), fun a _ _ => su2 K ("place" : Str) ("other" : Str) a), (.ref (ad5 K 3), fun a _ _ => su1 K ("place" : Str) a),
  (.ref (ad5 K 4), fun _ _ _ => tAsg (tVar 5) (gName 3))]
abbrev tb5 (K : PySem.W.Frag) (W : WX) : TS :=
  tSeq (tIfS (tst 0) (rsW (tMkB (ad5 K 0) (spI1 K "ValueError" "ValueError.__new__" (ad5 K 0) ("row" : Str)) (tCons (tVar 1) tNil)) W) tNext)
  (tSeq (tIfS (tst 1) (rsW (tMkB (ad5 K 1) (spI1 K "TypeError" "TypeError.__new__" (ad5 K 1) ("place" : Str)) (tCons (tVar 1) tNil)) W) tNext)
  (tSeq (tIfS (tst 2) (rsW (tMkB (ad5 K 2) (spI2 K "RuntimeError" "RuntimeError.__new__" (ad5 K 2) ("place" : Str) ("other" : Str)) (tCons (tVar 1) (tCons (tVar 2) tNil))) W) tNext)
  (tSeq (tIfS (tst 3) (rsW (tMkB (ad5 K 3) (spI1 K "LookupError" "LookupError.__new__" (ad5 K 3) ("place" : Str)) (tCons (tVar 1) tNil)) W) tNext)
  (rsW (fun _ H Q => Q (.ref (ad5 K 4)) none H) W))))
section
variable {K : PySem.W.Frag} {σ : L2.St} {H : Hp} {D : Ends} {W : WX}
theorem tst_yes {n : Int} {t u : TS} (h0 : σ[0]? = some (some (.int n))) (q : t D σ H) : tIfS (tst n) t u D σ H := by
  refine ⟨.int n, h0, rfl, true, ?_, q⟩
  rw [decide_eq_true rfl]
theorem tst_no {i n : Int} {t u : TS} (h0 : σ[0]? = some (some (.int i))) (ne : i ≠ n) (q : u D σ H) : tIfS (tst n) t u D σ H := by
  refine ⟨.int i, h0, rfl, false, ?_, q⟩
  rw [decide_eq_false fun z => ne (V.int.inj z)]
theorem tc_mono1 {i : Nat} {P Q : List V → Hp → Prop} (h : tCons (tVar i) tNil σ H P) (k : ∀ v H1, P v H1 → Q v H1) : tCons (tVar i) tNil σ H Q := by
  obtain ⟨v, e, q⟩ := h
  exact ⟨v, e, k _ _ q⟩
theorem tc_mono2 {i j : Nat} {P Q : List V → Hp → Prop} (h : tCons (tVar i) (tCons (tVar j) tNil) σ H P) (k : ∀ v H1, P v H1 → Q v H1) : tCons (tVar i) (tCons (tVar j) tNil) σ H Q := by
  obtain ⟨v, e, v2, e2, q⟩ := h
  exact ⟨v, e, v2, e2, k _ _ q⟩
/-- one field read in the suite -/
theorem su1_ok {C a d : Addr} {f : Str} {fs : List (Str × V)} {x : V} {D : Ends} (xf : XfC K C) (hno : PySem.W.findIn K (.ref C) f = some none) (h5 : σ[5]? = some (some (.ref a))) (ea : H a = some (exH a (.ref C) (some d))) (ed : H d = some (.xd fs)) (hl : fs.lookup f = some x)
    (q : ∀ p, H p = none → D.nx ((σ.set 3 (some (.ref a))).set 4 (some (.ref p))) (upd H p (.lst [x]))) : su1 K f a D σ H :=
  ⟨.ref a, h5, .ref a, h5, a, C, d, fs, x, rfl, xf, hno, ea, ed, hl, by rw [sizeLine_eq]; show 1 ≤ _; decide, fun p hp => ⟨.ref a, .ref p, _, _, rfl, frm0_at (Frm.new hp) ea, q p hp⟩⟩
theorem su2_ok {C a d : Addr} {f g : Str} {fs : List (Str × V)} {x y : V} {D : Ends} (xf : XfC K C) (hno : PySem.W.findIn K (.ref C) f = some none) (hno2 : PySem.W.findIn K (.ref C) g = some none) (h5 : σ[5]? = some (some (.ref a))) (ea : H a = some (exH a (.ref C) (some d))) (ed : H d = some (.xd fs))
    (hl : fs.lookup f = some x) (hl2 : fs.lookup g = some y) (q : ∀ p, H p = none → D.nx ((σ.set 3 (some (.ref a))).set 4 (some (.ref p))) (upd H p (.lst [x, y]))) : su2 K f g a D σ H :=
  ⟨.ref a, h5, .ref a, h5, a, C, d, fs, x, rfl, xf, hno, ea, ed, hl, .ref a, h5, a, C, d, fs, y, rfl, xf, hno2, ea, ed, hl2, by rw [sizeLine_eq]; show 2 ≤ _; decide, fun p hp => ⟨.ref a, .ref p, _, _, rfl, frm0_at (Frm.new hp) ea, q p hp⟩⟩
structure Xf5 (K : PySem.W.Frag) : Prop where
  x0 : XfC K (ad5 K 0)
  x1 : XfC K (ad5 K 1)
  x2 : XfC K (ad5 K 2)
  x3 : XfC K (ad5 K 3)
  n0 : PySem.W.findIn K (.ref (ad5 K 0)) ("row" : Str) = some none
  n1 : PySem.W.findIn K (.ref (ad5 K 1)) ("place" : Str) = some none
  n2 : PySem.W.findIn K (.ref (ad5 K 2)) ("place" : Str) = some none
  n2' : PySem.W.findIn K (.ref (ad5 K 2)) ("other" : Str) = some none
  n3 : PySem.W.findIn K (.ref (ad5 K 3)) ("place" : Str) = some none
theorem raised_ok {i : Nat} {x y : V} {tR : TS} {N : Hp → Prop} {R : VK} (T : ExT K) (F : Xf5 K) (hi : i < 5)
    (tail : ∀ (a pv : Addr) (dd : Option Addr) (H3 : Hp), Frm F0 H H3 → HasE K a i dd H3 → H pv = none → H3 pv = some (.lst (vals5 i x y)) → tR { nx := fun _ H' => N H', rt := R } [some (.int i), some x, some y, some (.ref a), some (.ref pv), none] H3) :
    tSeq (tPar 3 4 (tCons (tC .non) (tCons (tLst tNil) tNil))) (tSeq (fun D σ H => tb5 K (wAll K (fun _ _ _ _ => False) D 5 (cls5 K)) D σ H) tR) { nx := fun _ H' => N H', rt := R } [some (.int i), some x, some y, none, none, none] H := by
  refine ⟨Nat.zero_le _, fun p0 hp0 => ⟨.non, .ref p0, rfl, ?_⟩⟩
  have f0 := Frm.new (o := .lst []) hp0
  have e0 : upd H p0 (.lst []) p0 = some (.lst []) := upd_same
  dsimp only [List.set]
  generalize upd H p0 (.lst []) = H1 at f0 e0
  have d1 : ∀ (d : Addr) (fs : List (Str × V)), H1 d = none → ∀ a, upd H1 d (.xd fs) a = none → ∀ C, Frm F0 H (upd (upd H1 d (.xd fs)) a (exH a (.ref C) (some d))) ∧ upd (upd H1 d (.xd fs)) a (exH a (.ref C) (some d)) d = some (.xd fs) := fun d fs hd a ha C =>
    ⟨frm0_new (frm0_new f0 hd) ha, by rw [upd_ne (frm0_ne (upd_same (H := H1) (a := d) (o := .xd fs)) ha)]; exact upd_same⟩
  match i, hi with
  | 0, _ =>
    refine tst_yes rfl (mkI1 ⟨x, rfl, x, rfl, fun d hd => ?_⟩ tc_mono1)
    refine ⟨true, T.exm 0 0 (by decide) (by decide), fun _ a ha => ?_, (fun z => nomatch z)⟩
    obtain ⟨f1, g1⟩ := d1 d _ hd a ha (ad5 K 0)
    exact su1_ok F.x0 F.n0 rfl upd_same g1 rfl fun p hp => tail a p (some d) _ (frm0_new f1 hp) ⟨frm0_at (Frm.new hp) upd_same, fun z e => by cases e; exact ⟨_, frm0_at (Frm.new hp) g1⟩⟩ (frm0_none f1 hp) upd_same
  | 1, _ =>
    refine tst_no rfl (by decide) (tst_yes rfl (mkI1 ⟨x, rfl, x, rfl, fun d hd => ?_⟩ tc_mono1))
    refine ⟨false, T.exm 1 0 (by decide) (by decide), (fun z => nomatch z), fun _ => ⟨true, T.exm 1 1 (by decide) (by decide), fun _ a ha => ?_, (fun z => nomatch z)⟩⟩
    obtain ⟨f1, g1⟩ := d1 d _ hd a ha (ad5 K 1)
    exact su1_ok F.x1 F.n1 rfl upd_same g1 rfl fun p hp => tail a p (some d) _ (frm0_new f1 hp) ⟨frm0_at (Frm.new hp) upd_same, fun z e => by cases e; exact ⟨_, frm0_at (Frm.new hp) g1⟩⟩ (frm0_none f1 hp) upd_same
  | 2, _ =>
    refine tst_no rfl (by decide) (tst_no rfl (by decide) (tst_yes rfl (mkI2 ⟨x, rfl, y, rfl, x, y, rfl, fun d hd => ?_⟩ tc_mono2)))
    refine ⟨false, T.exm 2 0 (by decide) (by decide), (fun z => nomatch z), fun _ => ⟨false, T.exm 2 1 (by decide) (by decide), (fun z => nomatch z), fun _ => ⟨true, T.exm 2 2 (by decide) (by decide), fun _ a ha => ?_, (fun z => nomatch z)⟩⟩⟩
    obtain ⟨f1, g1⟩ := d1 d _ hd a ha (ad5 K 2)
    exact su2_ok F.x2 F.n2 F.n2' rfl upd_same g1 rfl rfl fun p hp => tail a p (some d) _ (frm0_new f1 hp) ⟨frm0_at (Frm.new hp) upd_same, fun z e => by cases e; exact ⟨_, frm0_at (Frm.new hp) g1⟩⟩ (frm0_none f1 hp) upd_same
  | 3, _ =>
    refine tst_no rfl (by decide) (tst_no rfl (by decide) (tst_no rfl (by decide) (tst_yes rfl (mkI1 ⟨x, rfl, x, rfl, fun d hd => ?_⟩ tc_mono1))))
    refine ⟨false, T.exm 3 0 (by decide) (by decide), (fun z => nomatch z), fun _ => ⟨false, T.exm 3 1 (by decide) (by decide), (fun z => nomatch z), fun _ => ⟨false, T.exm 3 2 (by decide) (by decide), (fun z => nomatch z), fun _ =>
      ⟨true, T.exm 3 3 (by decide) (by decide), fun _ a ha => ?_, (fun z => nomatch z)⟩⟩⟩⟩
    obtain ⟨f1, g1⟩ := d1 d _ hd a ha (ad5 K 3)
    exact su1_ok F.x3 F.n3 rfl upd_same g1 rfl fun p hp => tail a p (some d) _ (frm0_new f1 hp) ⟨frm0_at (Frm.new hp) upd_same, fun z e => by cases e; exact ⟨_, frm0_at (Frm.new hp) g1⟩⟩ (frm0_none f1 hp) upd_same
  | 4, _ =>
    refine tst_no rfl (by decide) (tst_no rfl (by decide) (tst_no rfl (by decide) (tst_no rfl (by decide) ?_)))
    refine ⟨false, T.exm 4 0 (by decide) (by decide), (fun z => nomatch z), fun _ => ⟨false, T.exm 4 1 (by decide) (by decide), (fun z => nomatch z), fun _ => ⟨false, T.exm 4 2 (by decide) (by decide), (fun z => nomatch z), fun _ =>
      ⟨false, T.exm 4 3 (by decide) (by decide), (fun z => nomatch z), fun _ => ⟨true, T.exm 4 4 (by decide) (by decide), fun _ a ha => ⟨.ref a, rfl, ?_⟩, (fun z => nomatch z)⟩⟩⟩⟩⟩
    exact tail a p0 none _ (frm0_new f0 ha) ⟨upd_same, (fun z e => nomatch e)⟩ hp0 (frm0_at (Frm.new ha) e0)
/-- what is told at last -/
theorem raised_end {Γ : Gm} {io : List Nat} {ad : Nat → Addr} {E : Env'} {fn : Fn} {i : Nat} {dx dy : PyData} {x y : V} {a pv : Addr} {dd : Option Addr} {H H3 : Hp} {σ0 : L2.St} {N : Hp → Prop} {R : VK} (ok : EOk K Γ io ad σ0 H E) (rx : RepD K H Γ.A dx x) (ry : RepD K H Γ.A dy y) (hi : i < 5) (hfn : (fn []).isSome = true)
    (f : Frm F0 H H3) (he : HasE K a i dd H3) (hpv : H pv = none) (hv : H3 pv = some (.lst (vals5 i x y))) (h3 : σ[3]? = some (some (.ref a))) (h4 : σ[4]? = some (some (.ref pv)))
    (q : ∀ v H', Frm Γ.W H H' → RepD K H' Γ.A (.tuple [.list ((clsL i).map .bool), .list (vals5 i dx dy)]) v → R v H') :
    tRet (tTup (tCons (tCall (spCl K fn) [] E0 (tCons (tVar 3) tNil)) (tCons (tVar 4) tNil))) { nx := fun _ H' => N H', rt := R } σ H3 := by
  refine ⟨.ref a, h3, hfn, a, i, dd, rfl, hi, he.at_, he.dic, fun pl H4 f4 hpl e4 => ⟨.ref pv, h4, by rw [sizeLine_eq]; show 2 ≤ _; decide, fun p hp => ?_⟩⟩
  have f5 := f.trans' f4
  have f6 := frm0_new (o := .tup [.ref pl, .ref pv]) f5 hp
  have nA : ∀ z, H z = none → ¬ Γ.A z := fun z e q => ok.oA z q e
  refine q _ _ f6.of0 (rep_tup (.inl ⟨nA p (frm0_none f5 hp), .inl upd_same⟩) (by rw [sizeLine_eq]; show 2 ≤ _; decide) ?_)
  have ne1 := frm0_at (Frm.new (o := .tup [.ref pl, .ref pv]) hp) e4
  have ne2 := frm0_at (Frm.new (o := .tup [.ref pl, .ref pv]) hp) (frm0_at f4 hv)
  have g : Go H Γ.A (upd H4 p (.tup [.ref pl, .ref pv])) Γ.A := Go.frm0 f6
  refine repL_cons (rep_lst ⟨nA pl (frm0_none f hpl), .inl ne1⟩ (by rw [sizeLine_eq]; show 9 ≤ _; decide) ?_) (repL_cons (rep_lst ⟨nA pv hpv, .inl ne2⟩ ?_ ?_) repL_nil)
  · unfold clsL
    simp only [List.map_cons, List.map_nil]
    repeat (first | exact repL_nil | refine repL_cons rep_bl ?_)
  · rw [sizeLine_eq]
    match i, hi with
    | 0, _ => show 1 ≤ _; decide
    | 1, _ => show 1 ≤ _; decide
    | 2, _ => show 2 ≤ _; decide
    | 3, _ => show 1 ≤ _; decide
    | 4, _ => show 0 ≤ _; decide
  · have gx := g.rep _ _ rx
    have gy := g.rep _ _ ry
    match i, hi with
    | 0, _ => exact repL_cons gx repL_nil
    | 1, _ => exact repL_cons gx repL_nil
    | 2, _ => exact repL_cons gx (repL_cons gy repL_nil)
    | 3, _ => exact repL_cons gx repL_nil
    | 4, _ => exact repL_nil
end
end DL
namespace DL
open PySem PySem.Spec PyProof.Rows L2
theorem fRaised_inv {Bs : List B} {r : PyData} {E' : Env'} (h : fRaised Bs = some (r, E')) : ∃ (i : Nat) (dx dy : PyData), i < 5 ∧ Bs = [B.v (.int i), B.v dx, B.v dy] ∧ r = .tuple [.list ((clsL i).map .bool), .list (vals5 i dx dy)] ∧ E' = [] := by
  unfold fRaised at h
  split at h
  · rename_i n x y
    split at h
    · rename_i hn
      cases h
      refine ⟨n.toNat, x, y, by omega, ?_, rfl, rfl⟩
      rw [show ((n.toNat : Nat) : Int) = n by omega]
    · cases h
  · cases h
theorem vs3 {K : PySem.W.Frag} {Γ : Gm} {ad : Nat → Addr} {vs : List V} {H : Hp} {i : Nat} {dx dy : PyData} (ok : EOk K Γ [] ad (vs.map some) H [B.v (.int i), B.v dx, B.v dy]) : ∃ x y, vs = [.int i, x, y] ∧ RepD K H Γ.A dx x ∧ RepD K H Γ.A dy y := by
  obtain ⟨v0, e0, r0⟩ := ok.vl 0 _ rfl
  obtain ⟨v1, e1, r1⟩ := ok.vl 1 _ rfl
  obtain ⟨v2, e2, r2⟩ := ok.vl 2 _ rfl
  have hl := ok.len
  rw [List.length_map] at hl
  match vs, hl with
  | [a, b, c], _ =>
    cases e0; cases e1; cases e2
    cases r0.int
    exact ⟨_, _, rfl, (Go.less ao_A).rep _ _ r1, (Go.less ao_A).rep _ _ r2⟩
theorem takes0 {X : Cx} : L2N.Takes X (fun _ _ _ _ => False) := fun _ _ ⟨_, _, _, _, _, _, _, _, _, _, _, _, _, _, _, _, w⟩ => w.elim
end DL

namespace DL
open PySem PySem.Spec PyProof.Rows L2
structure Fs where
  law_hand : FnL
  law_take : Fn
  law_of : Fn
  law_classes : Fn
  law_raised : Fn
  law : Fn
  init : Fn
  deep : Fn
def Fs.bot : Fs := ⟨fun _ => none, fun _ => none, fun _ => none, fun _ => none, fun _ => none, fun _ => none, fun _ => none, fun _ => none⟩
/-- _law_hand(_law_script, _law_k); slots 0:_law_script 1:_law_k 2:_law_cell 3:_law_great; changed in place [] -/
def b_law_hand (F : Fs) : Lf :=
  (qSeq (sAsg (fIf (f1 asB (f2 (oRel fun i j => decide (i < j)) (fV 1) (fB oLen (aV (fV 0) aNil)))) (f2 oIx (fV 0) (fV 1)) (fC (.int 0))) (τN 2))
    (qSeq (sAsg (f2 oMul (f2 oMod (fB oAbs (aV (fV 2) aNil)) (f2 oMul (f2 oPow (fC (.int 10)) (fC (.int 60))) (f2 oPow (fC (.int 10)) (fC (.int 60))))) (fB oInt (aV (f2 (oRel fun i j => decide (j ≤ i)) (fB oAbs (aV (fV 2) aNil)) (f2 oPow (fC (.int 10)) (fC (.int 18)))) aNil))) (τN 3))
    (fLst1 (aV (fV 3) (aV (f2 oAdd (f2 oAdd (f2 oMod (fV 2) (fC (.int 2305843009213693951))) (f2 oMul (fC (.int 104729)) (fV 1))) (fC (.int 7))) (aV (fC (.int 0)) aNil))))))
/-- _law_take(_law_hand_here, _law_many); slots 0:_law_hand_here 1:_law_many 2:_law_digit 3:_law_primes 4:_law_prime 5:_law_drawn; changed in place [0] -/
def b_law_take (F : Fs) : Sf :=
  (sSeq (sIf (f1 asB (f2 (oRel fun i j => decide (j < i)) (f2l oIx 0 (fC (.int 0))) (fC (.int 0)))) (sSeq (sAsg (f2 oMod (f2l oIx 0 (fC (.int 0))) (fV 1)) (τN 2))
    (sSeq (sSetI 0 (fC (.int 0)) (f2 oDiv (f2l oIx 0 (fC (.int 0))) (fV 1)))
    (sRet (fV 2)))) sNil)
    (sSeq (sSetI 0 (fC (.int 2)) (f2 oAdd (f2l oIx 0 (fC (.int 2))) (fC (.int 1))))
    (sSeq (sAsg (fDisp .list (aV (fC (.int 2147483647)) (aV (fC (.int 2147483629)) (aV (fC (.int 2147483587)) (aV (fC (.int 2147483579)) (aV (fC (.int 2147483563)) (aV (fC (.int 2147483549)) (aV (fC (.int 2147483543)) (aV (fC (.int 2147483497)) aNil))))))))) (τN 3))
    (sSeq (sAsg (f2 oIx (fV 3) (f2 oMod (f2l oIx 0 (fC (.int 2))) (fC (.int 8)))) (τN 4))
    (sSeq (sAsg (f2 oMod (f2 oPow (f2 oAdd (f2l oIx 0 (fC (.int 1))) (f2 oMul (fC (.int 7919)) (f2l oIx 0 (fC (.int 2))))) (fC (.int 5))) (fV 4)) (τN 5))
    (sRet (f2 oMod (f2 oDiv (f2 oMod (f2 oMul (fV 5) (f2 oAdd (f2 oMod (fV 5) (fC (.int 1009))) (f2l oIx 0 (fC (.int 2))))) (fV 4)) (fC (.int 7))) (fV 1))))))))
/-- _law_of(_law_hand_here, _law_some); slots 0:_law_hand_here 1:_law_some; changed in place [0] -/
def b_law_of (F : Fs) : Sf :=
  (sRet (f2 oIx (fV 1) (fCall [0] F.law_take (aS 0 (aV (fB oLen (aV (fV 1) aNil)) aNil)))))
/-- law(_law_script); slots 0:_law_script 1:_law_k 2:_law_hand_here 3:_law_turn 4:_law_some 5:_law_one 6:_law_other 7:_law_number 8:_law_found 9:_law_values 10:_law_due 11:_law_told 12:_law_at; changed in place [] -/
def b_law (F : Fs) : Sf :=
  (sSeq (sFor (fB itR1 (aV (fB oMax (aV (fC (.int 1)) (aV (fB oMin (aV (fC (.int 2)) (aV (fB oLen (aV (fV 0) aNil)) aNil))) aNil))) aNil)) (τN 1) (sSeq (sOwn 2 (fCallL F.law_hand (aV (fV 0) (aV (fV 1) aNil))))
    (sFor (fB itR1 (aV (fC (.int 6)) aNil)) (τN 3) (sSeq (sAsg (fDisp .list (aV (fC (.int 0)) (aV (fC (.int 7)) (aV (fC .none) (aV (fC (.str ("" : Str))) (aV (fDisp .tuple (aV (fC (.str ("main" : Str))) (aV (f2 oSub (fC (.int 0)) (fC (.int 1))) aNil))) (aV (fDisp .tuple (aV (fC (.str ("f" : Str))) (aV (fCall [0] F.law_take (aS 2 (aV (fC (.int 99)) aNil))) aNil))) (aV (fDisp .tuple aNil) (aV (f2 oPow (fC (.int 10)) (fC (.int 17))) (aV (fC (.bool false)) (aV (fC (.str ("7" : Str))) aNil))))))))))) (τN 4))
    (sSeq (sPar2 5 6 (aV (fCall [0] F.law_of (aS 2 (aV (fV 4) aNil))) (aV (fCall [0] F.law_of (aS 2 (aV (fV 4) aNil))) aNil)))
    (sFor (fB itR1 (aV (fC (.int 5)) aNil)) (τN 7) (sSeq (sAsg (fCall [] F.law_raised (aV (fV 7) (aV (fV 5) (aV (fV 6) aNil)))) (τT 2 (τCons (τN 8) (τCons (τN 9) τNil))))
    (sSeq (sAsg (f2 oAdd (vL (fLc [12] (fB itR1 (aV (fC (.int 5)) aNil)) (τN 12) gYes (f2 oEq (fV 7) (fV 12)))) (fDisp .list (aV (f2 oIn (fV 7) (fDisp .tuple (aV (fC (.int 0)) (aV (fC (.int 4)) aNil)))) aNil))) (τN 10))
    (sSeq (sAsg (f2 oAdd (fV 10) (fDisp .list (aV (f2 oEq (fV 7) (fC (.int 1))) (aV (f2 oEq (fV 7) (fC (.int 2))) (aV (f2 oEq (fV 7) (fC (.int 3))) aNil))))) (τN 10))
    (sSeq (sAsg (f2 oIx (fDisp .list (aV (fDisp .list (aV (fV 5) aNil)) (aV (fDisp .list (aV (fV 5) aNil)) (aV (fDisp .list (aV (fV 5) (aV (fV 6) aNil))) (aV (fDisp .list (aV (fV 5) aNil)) (aV (fDisp .list aNil) aNil)))))) (fV 7)) (τN 11))
    (sIf (fOr (f1 asB (f2 oNe (fV 8) (fV 10))) (f1 asB (f2 oNe (fB oRepr (aV (fV 9) aNil)) (fB oRepr (aV (fV 11) aNil))))) (sRet (fC (.bool false))) sNil)))))))))))
    (sRet (fC (.bool true))))
def step (F : Fs) : Fs where
  law_hand := bodyFnL [] 2 (b_law_hand F)
  law_take := bodyFn [0] 4 (b_law_take F)
  law_of := bodyFn [0] 0 (b_law_of F)
  law_classes := fun _ => some (.none, [])
  law_raised := fun Bs => (F.law_classes []).bind fun _ => (F.deep []).bind fun _ => fRaised Bs
  law := bodyFn [] 12 (b_law F)
  init := fun _ => some (.none, [])
  deep := fun _ => F.init []
def fs : Nat → Fs
  | 0 => Fs.bot
  | n + 1 => step (fs n)
def top (i : Nat) : Stmt := PySem.Challenge.pw_ownedtongue_k09_refusals_made_by_hand.main.body.getD i (.Pass ⟨0, 0, 0, 0⟩)
abbrev s_law_hand : Stmt := top 7
abbrev s_law_take : Stmt := top 8
abbrev s_law_of : Stmt := top 9
abbrev s_law_classes : Stmt := top 10
abbrev s_law_raised : Stmt := top 11
abbrev s_law : Stmt := top 12
abbrev s_NoText : Stmt := top 1
abbrev s_NoKinds : Stmt := top 2
abbrev s_Clash : Stmt := top 3
abbrev s_Endless : Stmt := top 4
abbrev s_NoLine : Stmt := top 5
structure Tp (w : World) (K : PySem.W.Frag) (mg : Str → Option Value) (fds : Nat → FuncData) : Prop where
  f_law_hand : FunD K ("_law_hand" : Str) ("_law_hand" : Str) (defArgs s_law_hand) (defBody s_law_hand) (defScope s_law_hand) [] [] (He.ga K ("_law_hand" : Str)) (fds 0)
  b_law_hand : Binds K (fds 0) [("_law_script" : Str), ("_law_k" : Str)] []
  m_law_hand : mg ("_law_hand" : Str) = some (.ref (He.ga K ("_law_hand" : Str)))
  f_law_take : FunD K ("_law_take" : Str) ("_law_take" : Str) (defArgs s_law_take) (defBody s_law_take) (defScope s_law_take) [] [] (He.ga K ("_law_take" : Str)) (fds 1)
  b_law_take : Binds K (fds 1) [("_law_hand_here" : Str), ("_law_many" : Str)] []
  m_law_take : mg ("_law_take" : Str) = some (.ref (He.ga K ("_law_take" : Str)))
  f_law_of : FunD K ("_law_of" : Str) ("_law_of" : Str) (defArgs s_law_of) (defBody s_law_of) (defScope s_law_of) [] [] (He.ga K ("_law_of" : Str)) (fds 2)
  b_law_of : Binds K (fds 2) [("_law_hand_here" : Str), ("_law_some" : Str)] []
  m_law_of : mg ("_law_of" : Str) = some (.ref (He.ga K ("_law_of" : Str)))
  f_law_classes : FunD K ("_law_classes" : Str) ("_law_classes" : Str) (defArgs s_law_classes) (defBody s_law_classes) (defScope s_law_classes) [] [] (He.ga K ("_law_classes" : Str)) (fds 3)
  b_law_classes : Binds K (fds 3) [("_law_error" : Str)] []
  m_law_classes : mg ("_law_classes" : Str) = some (.ref (He.ga K ("_law_classes" : Str)))
  f_law_raised : FunD K ("_law_raised" : Str) ("_law_raised" : Str) (defArgs s_law_raised) (defBody s_law_raised) (defScope s_law_raised) [] [] (He.ga K ("_law_raised" : Str)) (fds 4)
  b_law_raised : Binds K (fds 4) [("_law_number" : Str), ("_law_one" : Str), ("_law_other" : Str)] []
  m_law_raised : mg ("_law_raised" : Str) = some (.ref (He.ga K ("_law_raised" : Str)))
  f_law : FunD K ("law" : Str) ("law" : Str) (defArgs s_law) (defBody s_law) (defScope s_law) [] [] (He.ga K ("law" : Str)) (fds 5)
  b_law : Binds K (fds 5) [("_law_script" : Str)] []
  m_law : mg ("law" : Str) = some (.ref (He.ga K ("law" : Str)))
  z_LookupError : mg ("LookupError" : Str) = none
  z_RuntimeError : mg ("RuntimeError" : Str) = none
  z_TypeError : mg ("TypeError" : Str) = none
  z_ValueError : mg ("ValueError" : Str) = none
  z_abs : mg ("abs" : Str) = none
  z_int : mg ("int" : Str) = none
  z_isinstance : mg ("isinstance" : Str) = none
  z_len : mg ("len" : Str) = none
  z_max : mg ("max" : Str) = none
  z_min : mg ("min" : Str) = none
  z_range : mg ("range" : Str) = none
  z_repr : mg ("repr" : Str) = none
  m_NoText : mg ("NoText" : Str) = some (.ref (He.ga K ("NoText" : Str)))
  c_NoText : ClsI K ("NoText" : Str) "ValueError" "ValueError.__new__" "ValueError.__init__" [("row" : Str)]
  f_NoText : FunD K ("__init__" : Str) ("NoText.__init__" : Str) (defArgs (inCls s_NoText 0)) (defBody (inCls s_NoText 0)) (defScope (inCls s_NoText 0)) [] [] (He.ma K (He.ga K ("NoText" : Str)) ("__init__" : Str)) (fds 6)
  b_NoText : Binds K (fds 6) [("self" : Str), ("row" : Str)] []
  m_NoKinds : mg ("NoKinds" : Str) = some (.ref (He.ga K ("NoKinds" : Str)))
  c_NoKinds : ClsI K ("NoKinds" : Str) "TypeError" "TypeError.__new__" "TypeError.__init__" [("place" : Str)]
  f_NoKinds : FunD K ("__init__" : Str) ("NoKinds.__init__" : Str) (defArgs (inCls s_NoKinds 0)) (defBody (inCls s_NoKinds 0)) (defScope (inCls s_NoKinds 0)) [] [] (He.ma K (He.ga K ("NoKinds" : Str)) ("__init__" : Str)) (fds 7)
  b_NoKinds : Binds K (fds 7) [("self" : Str), ("place" : Str)] []
  m_Clash : mg ("Clash" : Str) = some (.ref (He.ga K ("Clash" : Str)))
  c_Clash : ClsI K ("Clash" : Str) "RuntimeError" "RuntimeError.__new__" "RuntimeError.__init__" [("place" : Str), ("other" : Str)]
  f_Clash : FunD K ("__init__" : Str) ("Clash.__init__" : Str) (defArgs (inCls s_Clash 0)) (defBody (inCls s_Clash 0)) (defScope (inCls s_Clash 0)) [] [] (He.ma K (He.ga K ("Clash" : Str)) ("__init__" : Str)) (fds 8)
  b_Clash : Binds K (fds 8) [("self" : Str), ("place" : Str), ("other" : Str)] []
  m_Endless : mg ("Endless" : Str) = some (.ref (He.ga K ("Endless" : Str)))
  c_Endless : ClsI K ("Endless" : Str) "LookupError" "LookupError.__new__" "LookupError.__init__" [("place" : Str)]
  f_Endless : FunD K ("__init__" : Str) ("Endless.__init__" : Str) (defArgs (inCls s_Endless 0)) (defBody (inCls s_Endless 0)) (defScope (inCls s_Endless 0)) [] [] (He.ma K (He.ga K ("Endless" : Str)) ("__init__" : Str)) (fds 9)
  b_Endless : Binds K (fds 9) [("self" : Str), ("place" : Str)] []
  m_NoLine : mg ("NoLine" : Str) = some (.ref (He.ga K ("NoLine" : Str)))
  c_NoLine : ClsN K ("NoLine" : Str) "ValueError" "ValueError.__new__"
  x_tab : ExT K
structure InitsOk (P : Program) (w : World) (K : PySem.W.Frag) (mg : Str → Option Value) (base : Heap) (fds : Nat → FuncData) (k : Nat) : Prop where
  NoText : FnOk P w K mg base CX0 k (He.ma K (He.ga K ("NoText" : Str)) ("__init__" : Str)) (fds 6) [("self" : Str), ("row" : Str)] (spI1 K "ValueError" "ValueError.__new__" (He.ga K ("NoText" : Str)) ("row" : Str))
  NoKinds : FnOk P w K mg base CX0 k (He.ma K (He.ga K ("NoKinds" : Str)) ("__init__" : Str)) (fds 7) [("self" : Str), ("place" : Str)] (spI1 K "TypeError" "TypeError.__new__" (He.ga K ("NoKinds" : Str)) ("place" : Str))
  Clash : FnOk P w K mg base CX0 k (He.ma K (He.ga K ("Clash" : Str)) ("__init__" : Str)) (fds 8) [("self" : Str), ("place" : Str), ("other" : Str)] (spI2 K "RuntimeError" "RuntimeError.__new__" (He.ga K ("Clash" : Str)) ("place" : Str) ("other" : Str))
  Endless : FnOk P w K mg base CX0 k (He.ma K (He.ga K ("Endless" : Str)) ("__init__" : Str)) (fds 9) [("self" : Str), ("place" : Str)] (spI1 K "LookupError" "LookupError.__new__" (He.ga K ("Endless" : Str)) ("place" : Str))
structure AllOk (P : Program) (w : World) (K : PySem.W.Frag) (mg : Str → Option Value) (base : Heap) (fds : Nat → FuncData) (k : Nat) (F : Fs) : Prop where
  law_hand : FnG P w K mg base CX0 k (He.ga K ("_law_hand" : Str)) (fds 0) [("_law_script" : Str), ("_law_k" : Str)] (spL K 2 [] F.law_hand)
  law_take : FnG P w K mg base CX0 k (He.ga K ("_law_take" : Str)) (fds 1) [("_law_hand_here" : Str), ("_law_many" : Str)] (spF K 2 [0] F.law_take)
  law_of : FnG P w K mg base CX0 k (He.ga K ("_law_of" : Str)) (fds 2) [("_law_hand_here" : Str), ("_law_some" : Str)] (spF K 2 [0] F.law_of)
  law_classes : FnG P w K mg base CX0 k (He.ga K ("_law_classes" : Str)) (fds 3) [("_law_error" : Str)] (spCl K F.law_classes)
  law_raised : FnG P w K mg base CX0 k (He.ga K ("_law_raised" : Str)) (fds 4) [("_law_number" : Str), ("_law_one" : Str), ("_law_other" : Str)] (spF K 3 [] F.law_raised)
  law : FnG P w K mg base CX0 k (He.ga K ("law" : Str)) (fds 5) [("_law_script" : Str)] (spF K 1 [] F.law)
  inits : (F.init []).isSome = true → InitsOk P w K mg base fds k
  deep : (F.deep []).isSome = true → ∃ j, k = j + 1 ∧ InitsOk P w K mg base fds j
section
variable {P : Program} {w : World} {K : PySem.W.Frag} {mg : Str → Option Value} {base : Heap} {fds : Nat → FuncData} {k : Nat} {F : Fs}
theorem sc_law_hand : FnScope [("_law_script" : Str), ("_law_k" : Str), ("_law_cell" : Str), ("_law_great" : Str)] [("_law_script" : Str), ("_law_k" : Str)] (defScope s_law_hand) := ⟨rfl, rfl, rfl, by decide +kernel, rfl, by decide +kernel, by decide +kernel⟩
theorem ok_law_hand (T : Tp w K mg fds) (hB : (base.get? sysModules).isSome = true) (G : AllOk P w K mg base fds k F) : FnG P w K mg base CX0 (k + 1) (He.ga K ("_law_hand" : Str)) (fds 0) [("_law_script" : Str), ("_law_k" : Str)] (spL K 2 [] (step F).law_hand) := by
  refine fnL_ok T.f_law_hand sc_law_hand rfl fun cdv A outer s H E hr => ?_
  have hu := hr.units
  have nd := (sc_law_hand).nd
  exact (dq_cons (ds_set (by decide) (fun h => ps_set (i := 2) nd rfl (Or.inl rfl) h) (de_if (dt_cmp op_lt (rs_rel _) (de_var (pv 1 rfl (.inl rfl))) (de_callB call_len cs_len (by rfl) T.z_len boot_len (da_v (de_var (pv 0 rfl (.inl rfl))) da_nil)) (nomark _)) (de_ix ix_seq rs_ix (de_var (pv 0 rfl (.inl rfl))) (de_var (pv 1 rfl (.inl rfl))) (fun _ _ => rfl)) de_int))
    (dq_cons (ds_set (by decide) (fun h => ps_set (i := 3) nd rfl (Or.inl rfl) h) (de_bin op_mulD rs_mul (de_bin op_mod rs_mod (de_callB call_abs cs_abs (by rfl) T.z_abs boot_abs (da_v (de_var (pv 2 rfl (.inl rfl))) da_nil)) (de_bin op_mulD rs_mul (de_bin op_pow rs_pow de_int de_int) (de_bin op_pow rs_pow de_int de_int))) (de_callTy call_int1 cs_int (by rfl) T.z_int boot_int (da_v (de_cmp op_ge (rs_rel _) (de_callB call_abs cs_abs (by rfl) T.z_abs boot_abs (da_v (de_var (pv 2 rfl (.inl rfl))) da_nil)) (de_bin op_pow rs_pow de_int de_int) (nomark _)) da_nil))))
    (dq_one (dq_ret (ll_lst (da_v (de_var (pv 3 rfl (.inl rfl))) (da_v (de_bin op_addD rs_add (de_bin op_addD rs_add (de_bin op_mod rs_mod (de_var (pv 2 rfl (.inl rfl))) de_int) (de_bin op_mulD rs_mul de_int (de_var (pv 1 rfl (.inl rfl))))) de_int) (da_v de_int da_nil))))))))
theorem sc_law_take : FnScope [("_law_hand_here" : Str), ("_law_many" : Str), ("_law_digit" : Str), ("_law_primes" : Str), ("_law_prime" : Str), ("_law_drawn" : Str)] [("_law_hand_here" : Str), ("_law_many" : Str)] (defScope s_law_take) := ⟨rfl, rfl, rfl, by decide +kernel, rfl, by decide +kernel, by decide +kernel⟩
theorem ok_law_take (T : Tp w K mg fds) (hB : (base.get? sysModules).isSome = true) (G : AllOk P w K mg base fds k F) : FnG P w K mg base CX0 (k + 1) (He.ga K ("_law_take" : Str)) (fds 1) [("_law_hand_here" : Str), ("_law_many" : Str)] (spF K 2 [0] (step F).law_take) := by
  refine fn_ok T.f_law_take sc_law_take rfl fun cdv A outer s H E hr => ?_
  have hu := hr.units
  have nd := (sc_law_take).nd
  exact (ds_cons (ds_if (dt_cmp op_gt (rs_rel _) (de_ix_l ix_seq rs_ix (pv 0 rfl (.inl rfl)) de_int (fun _ _ => rfl)) de_int (nomark _)) (ds_cons (ds_set (by decide) (fun h => ps_set (i := 2) nd rfl (Or.inl rfl) h) (de_bin op_mod rs_mod (de_ix_l ix_seq rs_ix (pv 0 rfl (.inl rfl)) de_int (fun _ _ => rfl)) (de_var (pv 1 rfl (.inl rfl)))))
    (ds_cons (ds_setI (pv 0 rfl (.inl rfl)) de_int (de_bin op_fdivW rs_div (de_ix_l ix_seq rs_ix (pv 0 rfl (.inl rfl)) de_int (fun _ _ => rfl)) (de_var (pv 1 rfl (.inl rfl)))) (fun hx hk he => ps_asg he (pg_sub hx hk set_list)))
    (ds_one (ds_ret (de_var (pv 2 rfl (.inl rfl))))))) ds_nil)
    (ds_cons (ds_setI (pv 0 rfl (.inl rfl)) de_int (de_bin op_addD rs_add (de_ix_l ix_seq rs_ix (pv 0 rfl (.inl rfl)) de_int (fun _ _ => rfl)) de_int) (fun hx hk he => ps_asg he (pg_sub hx hk set_list)))
    (ds_cons (ds_set (by decide) (fun h => ps_set (i := 3) nd rfl (Or.inl rfl) h) (de_lst (da_v de_int (da_v de_int (da_v de_int (da_v de_int (da_v de_int (da_v de_int (da_v de_int (da_v de_int da_nil))))))))))
    (ds_cons (ds_set (by decide) (fun h => ps_set (i := 4) nd rfl (Or.inl rfl) h) (de_ix ix_seq rs_ix (de_var (pv 3 rfl (.inl rfl))) (de_bin op_mod rs_mod (de_ix_l ix_seq rs_ix (pv 0 rfl (.inl rfl)) de_int (fun _ _ => rfl)) de_int) (fun _ _ => rfl)))
    (ds_cons (ds_set (by decide) (fun h => ps_set (i := 5) nd rfl (Or.inl rfl) h) (de_bin op_mod rs_mod (de_bin op_pow rs_pow (de_bin op_addD rs_add (de_ix_l ix_seq rs_ix (pv 0 rfl (.inl rfl)) de_int (fun _ _ => rfl)) (de_bin op_mulD rs_mul de_int (de_ix_l ix_seq rs_ix (pv 0 rfl (.inl rfl)) de_int (fun _ _ => rfl)))) de_int) (de_var (pv 4 rfl (.inl rfl)))))
    (ds_one (ds_ret (de_bin op_mod rs_mod (de_bin op_fdivW rs_div (de_bin op_mod rs_mod (de_bin op_mulD rs_mul (de_var (pv 5 rfl (.inl rfl))) (de_bin op_addD rs_add (de_bin op_mod rs_mod (de_var (pv 5 rfl (.inl rfl))) de_int) (de_ix_l ix_seq rs_ix (pv 0 rfl (.inl rfl)) de_int (fun _ _ => rfl)))) (de_var (pv 4 rfl (.inl rfl)))) de_int) (de_var (pv 1 rfl (.inl rfl)))))))))))
theorem sc_law_of : FnScope [("_law_hand_here" : Str), ("_law_some" : Str)] [("_law_hand_here" : Str), ("_law_some" : Str)] (defScope s_law_of) := ⟨rfl, rfl, rfl, by decide +kernel, rfl, by decide +kernel, by decide +kernel⟩
theorem ok_law_of (T : Tp w K mg fds) (hB : (base.get? sysModules).isSome = true) (G : AllOk P w K mg base fds k F) : FnG P w K mg base CX0 (k + 1) (He.ga K ("_law_of" : Str)) (fds 2) [("_law_hand_here" : Str), ("_law_some" : Str)] (spF K 2 [0] (step F).law_of) := by
  refine fn_ok T.f_law_of sc_law_of rfl fun cdv A outer s H E hr => ?_
  have hu := hr.units
  have nd := (sc_law_of).nd
  exact (ds_one (ds_ret (de_ix ix_seq rs_ix (de_var (pv 1 rfl (.inl rfl))) (de_call G.law_take hr (by rfl) T.m_law_take T.f_law_take.kp T.b_law_take (da_s (pv 0 rfl (.inl rfl)) (da_v (de_callB call_len cs_len (by rfl) T.z_len boot_len (da_v (de_var (pv 1 rfl (.inl rfl))) da_nil)) da_nil)) (alen_s (alen_v alen_nil))) (fun _ _ => rfl))))
theorem sc_law_classes : FnScope [("_law_error" : Str), ("_law_some" : Str)] [("_law_error" : Str)] (defScope s_law_classes) := ⟨rfl, rfl, rfl, by decide +kernel, rfl, by decide +kernel, by decide +kernel⟩
theorem sc_law_raised : FnScope [("_law_number" : Str), ("_law_one" : Str), ("_law_other" : Str), ("_law_caught" : Str), ("_law_values" : Str), ("e" : Str)] [("_law_number" : Str), ("_law_one" : Str), ("_law_other" : Str)] (defScope s_law_raised) := ⟨rfl, rfl, rfl, by decide +kernel, rfl, by decide +kernel, by decide +kernel⟩
theorem sc_law : FnScope [("_law_script" : Str), ("_law_k" : Str), ("_law_hand_here" : Str), ("_law_turn" : Str), ("_law_some" : Str), ("_law_one" : Str), ("_law_other" : Str), ("_law_number" : Str), ("_law_found" : Str), ("_law_values" : Str), ("_law_due" : Str), ("_law_told" : Str), ("_law_at" : Str)] [("_law_script" : Str)] (defScope s_law) := ⟨rfl, rfl, rfl, by decide +kernel, rfl, by decide +kernel, by decide +kernel⟩
theorem ok_law (T : Tp w K mg fds) (hB : (base.get? sysModules).isSome = true) (G : AllOk P w K mg base fds k F) : FnG P w K mg base CX0 (k + 1) (He.ga K ("law" : Str)) (fds 5) [("_law_script" : Str)] (spF K 1 [] (step F).law) := by
  refine fn_ok T.f_law sc_law rfl fun cdv A outer s H E hr => ?_
  have hu := hr.units
  have nd := (sc_law).nd
  exact (ds_cons (ds_for (tok_n (by decide)) PassesOwn.never rfl (di_rng1 (by rfl) T.z_range (da_v (de_callB (call_max2 rfl) cs_max (by rfl) T.z_max boot_max (da_v de_int (da_v (de_callB (call_min2 rfl) cs_min (by rfl) T.z_min boot_min (da_v de_int (da_v (de_callB call_len cs_len (by rfl) T.z_len boot_len (da_v (de_var (pv 0 rfl (.inl rfl))) da_nil)) da_nil))) da_nil))) da_nil)) (dg_name (pg_name (i := 1) nd rfl (.inl rfl))) (ds_cons (ds_own (by decide) (ll_call G.law_hand hr (by rfl) T.m_law_hand T.f_law_hand.kp T.b_law_hand (da_v (de_var (pv 0 rfl (.inl rfl))) (da_v (de_var (pv 1 rfl (.inl rfl))) da_nil)) (alen_v (alen_v alen_nil))) (fun h => ps_set (i := 2) nd rfl (Or.inl rfl) h))
    (ds_one (ds_for (tok_n (by decide)) PassesOwn.never rfl (di_rng1 (by rfl) T.z_range (da_v de_int da_nil)) (dg_name (pg_name (i := 3) nd rfl (.inl rfl))) (ds_cons (ds_set (by decide) (fun h => ps_set (i := 4) nd rfl (Or.inl rfl) h) (de_lst (da_v de_int (da_v de_int (da_v de_non (da_v (de_str (by decide)) (da_v (de_tup (da_v (de_str (by decide)) (da_v (de_bin op_sub rs_sub de_int de_int) da_nil))) (da_v (de_tup (da_v (de_str (by decide)) (da_v (de_call G.law_take hr (by rfl) T.m_law_take T.f_law_take.kp T.b_law_take (da_s (pv 2 rfl (.inl rfl)) (da_v de_int da_nil)) (alen_s (alen_v alen_nil))) da_nil))) (da_v (de_tup da_nil) (da_v (de_bin op_pow rs_pow de_int de_int) (da_v de_bl (da_v (de_str (by decide)) da_nil))))))))))))
    (ds_cons (ds_par2 (by decide) (by decide) (ps_par (i := 5) (j := 6) rfl nd rfl rfl (by decide) rfl rfl (da_v (de_call G.law_of hr (by rfl) T.m_law_of T.f_law_of.kp T.b_law_of (da_s (pv 2 rfl (.inl rfl)) (da_v (de_var (pv 4 rfl (.inl rfl))) da_nil)) (alen_s (alen_v alen_nil))) (da_v (de_call G.law_of hr (by rfl) T.m_law_of T.f_law_of.kp T.b_law_of (da_s (pv 2 rfl (.inl rfl)) (da_v (de_var (pv 4 rfl (.inl rfl))) da_nil)) (alen_s (alen_v alen_nil))) da_nil)) (by rfl)))
    (ds_one (ds_for (tok_n (by decide)) PassesOwn.never rfl (di_rng1 (by rfl) T.z_range (da_v de_int da_nil)) (dg_name (pg_name (i := 7) nd rfl (.inr rfl))) (ds_cons (ds_asg (tok_t (tok_cons (tok_n (by decide)) (tok_cons (tok_n (by decide)) tok_nil))) (de_call G.law_raised hr (by rfl) T.m_law_raised T.f_law_raised.kp T.b_law_raised (da_v (de_var (pv 7 rfl (.inr (.inl rfl)))) (da_v (de_var (pv 5 rfl (.inl rfl))) (da_v (de_var (pv 6 rfl (.inl rfl))) da_nil))) (alen_v (alen_v (alen_v alen_nil)))) (dg_tup rfl (dg_cons (dg_name (pg_name (i := 8) nd rfl (.inl rfl))) (dg_cons (dg_name (pg_name (i := 9) nd rfl (.inl rfl))) dg_nil))))
    (ds_cons (ds_set (by decide) (fun h => ps_set (i := 10) nd rfl (Or.inl rfl) h) (de_bin op_addD rs_add (ld_val (ll_lc (own := [(("_law_at" : Str), 12)]) (tok_n (by decide)) (tin_n (by decide)) rfl nd (di_rng1 (by rfl) T.z_range (da_v de_int da_nil)) (blkOk_by (show blkC [("_law_script" : Str), ("_law_k" : Str), ("_law_hand_here" : Str), ("_law_turn" : Str), ("_law_some" : Str), ("_law_one" : Str), ("_law_other" : Str), ("_law_number" : Str), ("_law_found" : Str), ("_law_values" : Str), ("_law_due" : Str), ("_law_told" : Str), ("_law_at" : Str)] (defScope s_law) _ _ = true by decide +kernel)) (fun _ _ _ _ _ => (dg_name (pg_name (i := 12) nd rfl (Or.inl rfl)))) (fun _ _ _ _ _ => dts_nil) (fun _ _ _ _ _ => (de_cmp (op_eqA hu) rs_eq (de_var (pv 7 rfl (.inr (.inl rfl)))) (de_var (pv 12 rfl (.inl rfl))) (nomark _))))) (de_lst (da_v (de_cmp op_inA rs_in (de_var (pv 7 rfl (.inr (.inl rfl)))) (de_tup (da_v de_int (da_v de_int da_nil))) (by rfl)) da_nil))))
    (ds_cons (ds_set (by decide) (fun h => ps_set (i := 10) nd rfl (Or.inl rfl) h) (de_bin op_addD rs_add (de_var (pv 10 rfl (.inl rfl))) (de_lst (da_v (de_cmp (op_eqA hu) rs_eq (de_var (pv 7 rfl (.inr (.inl rfl)))) de_int (nomark _)) (da_v (de_cmp (op_eqA hu) rs_eq (de_var (pv 7 rfl (.inr (.inl rfl)))) de_int (nomark _)) (da_v (de_cmp (op_eqA hu) rs_eq (de_var (pv 7 rfl (.inr (.inl rfl)))) de_int (nomark _)) da_nil))))))
    (ds_cons (ds_set (by decide) (fun h => ps_set (i := 11) nd rfl (Or.inl rfl) h) (de_ix ix_seq rs_ix (de_lst (da_v (de_lst (da_v (de_var (pv 5 rfl (.inl rfl))) da_nil)) (da_v (de_lst (da_v (de_var (pv 5 rfl (.inl rfl))) da_nil)) (da_v (de_lst (da_v (de_var (pv 5 rfl (.inl rfl))) (da_v (de_var (pv 6 rfl (.inl rfl))) da_nil))) (da_v (de_lst (da_v (de_var (pv 5 rfl (.inl rfl))) da_nil)) (da_v (de_lst da_nil) da_nil)))))) (de_var (pv 7 rfl (.inr (.inl rfl)))) (fun _ _ => rfl)))
    (ds_one (ds_if (PW.pt (dw_or (dt_cmp (op_neA hu) rs_ne (de_var (pv 8 rfl (.inl rfl))) (de_var (pv 10 rfl (.inl rfl))) (nomark _)) (dw_or1 (dt_cmp (op_neA hu) rs_ne (de_callB (call_reprD hB hu hr.gd) cs_repr (by rfl) T.z_repr boot_repr (da_v (de_var (pv 9 rfl (.inl rfl))) da_nil)) (de_callB (call_reprD hB hu hr.gd) cs_repr (by rfl) T.z_repr boot_repr (da_v (de_var (pv 11 rfl (.inl rfl))) da_nil)) (nomark _))))) (ds_one (ds_ret de_bl)) ds_nil))))))))))))))
    (ds_one (ds_ret de_bl)))
theorem sc_NoText : FnScope [("self" : Str), ("row" : Str)] [("self" : Str), ("row" : Str)] (defScope (inCls s_NoText 0)) := ⟨rfl, rfl, rfl, by decide +kernel, rfl, by decide +kernel, by decide +kernel⟩
theorem init_NoText (T : Tp w K mg fds) : FnOk P w K mg base CX0 (k + 1) (He.ma K (He.ga K ("NoText" : Str)) ("__init__" : Str)) (fds 6) [("self" : Str), ("row" : Str)] (spI1 K "ValueError" "ValueError.__new__" (He.ga K ("NoText" : Str)) ("row" : Str)) :=
  fnI_of T.f_NoText sc_NoText (fun vs H Q E h => by obtain ⟨a, x, rfl, _⟩ := h; rfl) fun cdv A outer s H vs Q E h => by
    have nd := (sc_NoText).nd
    obtain ⟨a, x, rfl, ea, q⟩ := h
    exact ⟨_, pss_cons (ps_expr (pe_biB bb_V (by rfl) T.z_ValueError boot_ValueError (typ_B (.inl rfl)) T.c_NoText.vi (by rfl) (pa_cons (pv 0 rfl (.inl rfl)) (pa_cons (pv 1 rfl (.inl rfl)) pa_nil)))) (pss_one (ps_osB bb_V (pv 0 rfl (.inl rfl)) (pv 1 rfl (.inl rfl)))), init1_ok T.c_NoText.o (T.c_NoText.no _ (by decide)) ea q⟩
theorem sc_NoKinds : FnScope [("self" : Str), ("place" : Str)] [("self" : Str), ("place" : Str)] (defScope (inCls s_NoKinds 0)) := ⟨rfl, rfl, rfl, by decide +kernel, rfl, by decide +kernel, by decide +kernel⟩
theorem init_NoKinds (T : Tp w K mg fds) : FnOk P w K mg base CX0 (k + 1) (He.ma K (He.ga K ("NoKinds" : Str)) ("__init__" : Str)) (fds 7) [("self" : Str), ("place" : Str)] (spI1 K "TypeError" "TypeError.__new__" (He.ga K ("NoKinds" : Str)) ("place" : Str)) :=
  fnI_of T.f_NoKinds sc_NoKinds (fun vs H Q E h => by obtain ⟨a, x, rfl, _⟩ := h; rfl) fun cdv A outer s H vs Q E h => by
    have nd := (sc_NoKinds).nd
    obtain ⟨a, x, rfl, ea, q⟩ := h
    exact ⟨_, pss_cons (ps_expr (pe_biB bb_T (by rfl) T.z_TypeError boot_TypeError (typ_B (.inr (.inl rfl))) T.c_NoKinds.vi (by rfl) (pa_cons (pv 0 rfl (.inl rfl)) (pa_cons (pv 1 rfl (.inl rfl)) pa_nil)))) (pss_one (ps_osB bb_T (pv 0 rfl (.inl rfl)) (pv 1 rfl (.inl rfl)))), init1_ok T.c_NoKinds.o (T.c_NoKinds.no _ (by decide)) ea q⟩
theorem sc_Clash : FnScope [("self" : Str), ("place" : Str), ("other" : Str)] [("self" : Str), ("place" : Str), ("other" : Str)] (defScope (inCls s_Clash 0)) := ⟨rfl, rfl, rfl, by decide +kernel, rfl, by decide +kernel, by decide +kernel⟩
theorem init_Clash (T : Tp w K mg fds) : FnOk P w K mg base CX0 (k + 1) (He.ma K (He.ga K ("Clash" : Str)) ("__init__" : Str)) (fds 8) [("self" : Str), ("place" : Str), ("other" : Str)] (spI2 K "RuntimeError" "RuntimeError.__new__" (He.ga K ("Clash" : Str)) ("place" : Str) ("other" : Str)) :=
  fnI_of T.f_Clash sc_Clash (fun vs H Q E h => by obtain ⟨a, x, y, rfl, _⟩ := h; rfl) fun cdv A outer s H vs Q E h => by
    have nd := (sc_Clash).nd
    obtain ⟨a, x, y, rfl, ea, q⟩ := h
    exact ⟨_, pss_cons (ps_expr (pe_biB bb_R (by rfl) T.z_RuntimeError boot_RuntimeError (typ_B (.inr (.inr (.inl rfl)))) T.c_Clash.vi (by rfl) (pa_cons (pv 0 rfl (.inl rfl)) (pa_cons (pv 1 rfl (.inl rfl)) (pa_cons (pv 2 rfl (.inl rfl)) pa_nil))))) (pss_cons (ps_osB bb_R (pv 0 rfl (.inl rfl)) (pv 1 rfl (.inl rfl))) (pss_one (ps_osB bb_R (pv 0 rfl (.inl rfl)) (pv 2 rfl (.inl rfl))))), init2_ok T.c_Clash.o (T.c_Clash.no _ (by decide)) (T.c_Clash.no _ (by decide)) ea q⟩
theorem sc_Endless : FnScope [("self" : Str), ("place" : Str)] [("self" : Str), ("place" : Str)] (defScope (inCls s_Endless 0)) := ⟨rfl, rfl, rfl, by decide +kernel, rfl, by decide +kernel, by decide +kernel⟩
theorem init_Endless (T : Tp w K mg fds) : FnOk P w K mg base CX0 (k + 1) (He.ma K (He.ga K ("Endless" : Str)) ("__init__" : Str)) (fds 9) [("self" : Str), ("place" : Str)] (spI1 K "LookupError" "LookupError.__new__" (He.ga K ("Endless" : Str)) ("place" : Str)) :=
  fnI_of T.f_Endless sc_Endless (fun vs H Q E h => by obtain ⟨a, x, rfl, _⟩ := h; rfl) fun cdv A outer s H vs Q E h => by
    have nd := (sc_Endless).nd
    obtain ⟨a, x, rfl, ea, q⟩ := h
    exact ⟨_, pss_cons (ps_expr (pe_biB bb_L (by rfl) T.z_LookupError boot_LookupError (typ_B (.inr (.inr (.inr rfl)))) T.c_Endless.vi (by rfl) (pa_cons (pv 0 rfl (.inl rfl)) (pa_cons (pv 1 rfl (.inl rfl)) pa_nil)))) (pss_one (ps_osB bb_L (pv 0 rfl (.inl rfl)) (pv 1 rfl (.inl rfl)))), init1_ok T.c_Endless.o (T.c_Endless.no _ (by decide)) ea q⟩
theorem ok_law_classes (T : Tp w K mg fds) (hB : (base.get? sysModules).isSome = true) (G : AllOk P w K mg base fds k F) : FnG P w K mg base CX0 (k + 1) (He.ga K ("_law_classes" : Str)) (fds 3) [("_law_error" : Str)] (spCl K (step F).law_classes) := by
  refine okG T.f_law_classes sc_law_classes (fun vs H Q E h => by obtain ⟨_, a, i, dd, rfl, _⟩ := h; rfl) fun cdv A outer s H vs Q E hr h => ?_
  have nd := (sc_law_classes).nd
  obtain ⟨_, a, i, dd, rfl, hi, ea, hdd, q⟩ := h
  refine ⟨_, pss_cons (ps_set (i := 1) nd rfl (Or.inl rfl) (pe_lst (pa_cons (pe_callB call_isH (by rfl) T.z_isinstance boot_isinstance (pa_cons (pv 0 rfl (.inl rfl)) (pa_cons (pe_glob (v := .ref (ad5 K 0)) (by rfl) T.m_NoText rfl) pa_nil)))
      (pa_cons (pe_callB call_isH (by rfl) T.z_isinstance boot_isinstance (pa_cons (pv 0 rfl (.inl rfl)) (pa_cons (pe_glob (v := .ref (ad5 K 1)) (by rfl) T.m_NoKinds rfl) pa_nil)))
      (pa_cons (pe_callB call_isH (by rfl) T.z_isinstance boot_isinstance (pa_cons (pv 0 rfl (.inl rfl)) (pa_cons (pe_glob (v := .ref (ad5 K 2)) (by rfl) T.m_Clash rfl) pa_nil))) pa_nil)))))
    (pss_cons (ps_set (i := 1) nd rfl (Or.inl rfl) (pe_op op_catR (pv 1 rfl (.inl rfl)) (pe_lst (pa_cons (pe_callB call_isH (by rfl) T.z_isinstance boot_isinstance (pa_cons (pv 0 rfl (.inl rfl)) (pa_cons (pe_glob (v := .ref (ad5 K 3)) (by rfl) T.m_Endless rfl) pa_nil)))
      (pa_cons (pe_callB call_isH (by rfl) T.z_isinstance boot_isinstance (pa_cons (pv 0 rfl (.inl rfl)) (pa_cons (pe_glob (v := .ref (ad5 K 4)) (by rfl) T.m_NoLine rfl) pa_nil)))
      (pa_cons (pe_callB call_isH (by rfl) T.z_isinstance boot_isinstance (pa_cons (pv 0 rfl (.inl rfl)) (pa_cons (pe_bltn (v := .ty "ValueError") (by rfl) T.z_ValueError boot_ValueError rfl) pa_nil))) pa_nil))))))
    (pss_one (ps_ret (pe_op op_catR (pv 1 rfl (.inl rfl)) (pe_lst (pa_cons (pe_callB call_isH (by rfl) T.z_isinstance boot_isinstance (pa_cons (pv 0 rfl (.inl rfl)) (pa_cons (pe_bltn (v := .ty "TypeError") (by rfl) T.z_TypeError boot_TypeError rfl) pa_nil)))
      (pa_cons (pe_callB call_isH (by rfl) T.z_isinstance boot_isinstance (pa_cons (pv 0 rfl (.inl rfl)) (pa_cons (pe_bltn (v := .ty "RuntimeError") (by rfl) T.z_RuntimeError boot_RuntimeError rfl) pa_nil)))
      (pa_cons (pe_callB call_isH (by rfl) T.z_isinstance boot_isinstance (pa_cons (pv 0 rfl (.inl rfl)) (pa_cons (pe_bltn (v := .ty "LookupError") (by rfl) T.z_LookupError boot_LookupError rfl) pa_nil))) pa_nil)))))))), cl_ok T.x_tab hi ⟨ea, hdd⟩ q⟩
theorem ok_law_raised (T : Tp w K mg fds) (hB : (base.get? sysModules).isSome = true) (G : AllOk P w K mg base fds k F) : FnG P w K mg base CX0 (k + 1) (He.ga K ("_law_raised" : Str)) (fds 4) [("_law_number" : Str), ("_law_one" : Str), ("_law_other" : Str)] (spF K 3 [] (step F).law_raised) := by
  refine okG T.f_law_raised sc_law_raised (fun vs H Q E h => ?_) fun cdv A outer s H vs Q E hr h => ?_
  · obtain ⟨Γ, ad, Bs, r, E', ok, hl, _⟩ := h
    rw [← List.length_map (f := some) (as := vs), ok.len, hl] <;> rfl
  obtain ⟨Γ, ad, Bs, r, E', ok, hl, hio, he, q⟩ := h
  obtain ⟨c1, hc1, he⟩ := Option.bind_eq_some_iff.mp he
  obtain ⟨c2, hc2, he⟩ := Option.bind_eq_some_iff.mp he
  obtain ⟨i, dx, dy, hi, rfl, rfl, rfl⟩ := fRaised_inv he
  obtain ⟨x, y, rfl, rx, ry⟩ := vs3 ok
  obtain ⟨j, rfl, IO⟩ := G.deep (by rw [hc2] <;> rfl)
  have nd := (sc_law_raised).nd
  refine ⟨_, pss_cons (ps_par (i := 3) (j := 4) rfl nd rfl rfl (by decide) rfl rfl (pa_cons pe_non (pa_cons (pe_lst pa_nil) pa_nil)) (by rfl))
    (pss_cons (ps_tryAll (i := 5) (tb := tb5 K) (l := cls5 K) rfl rfl rfl nd rfl rfl takes0 (fun W pn xe tk pw =>
      pss_cons (ps_if (pt_cmpR op_eq (pv 0 rfl (.inl rfl)) pe_int (nomark _)) (pss_one (L2N.ps_raise rfl tk (pmk_B bb_V T.c_NoText.o T.c_NoText.iC T.c_NoText.tI IO.NoText hr.rm T.b_NoText (by rfl) T.m_NoText (pa_cons (pv 1 rfl (.inl rfl)) pa_nil)))) pss_nil)
      (pss_cons (ps_if (pt_cmpR op_eq (pv 0 rfl (.inl rfl)) pe_int (nomark _)) (pss_one (L2N.ps_raise rfl tk (pmk_B bb_T T.c_NoKinds.o T.c_NoKinds.iC T.c_NoKinds.tI IO.NoKinds hr.rm T.b_NoKinds (by rfl) T.m_NoKinds (pa_cons (pv 1 rfl (.inl rfl)) pa_nil)))) pss_nil)
      (pss_cons (ps_if (pt_cmpR op_eq (pv 0 rfl (.inl rfl)) pe_int (nomark _)) (pss_one (L2N.ps_raise rfl tk (pmk_B bb_R T.c_Clash.o T.c_Clash.iC T.c_Clash.tI IO.Clash hr.rm T.b_Clash (by rfl) T.m_Clash (pa_cons (pv 1 rfl (.inl rfl)) (pa_cons (pv 2 rfl (.inl rfl)) pa_nil))))) pss_nil)
      (pss_cons (ps_if (pt_cmpR op_eq (pv 0 rfl (.inl rfl)) pe_int (nomark _)) (pss_one (L2N.ps_raise rfl tk (pmk_B bb_L T.c_Endless.o T.c_Endless.iC T.c_Endless.tI IO.Endless hr.rm T.b_Endless (by rfl) T.m_Endless (pa_cons (pv 1 rfl (.inl rfl)) pa_nil)))) pss_nil)
      (pss_one (L2N.ps_raise rfl tk (pmk_none bb_V.f T.c_NoLine.ex T.m_NoLine T.c_NoLine.kp (raises_own T.c_NoLine.sb T.c_NoLine.ty) (by rfl))))))))
      (.cons ⟨by rfl, by decide, .inl T.m_NoText⟩ (fun a cls d pn => pss_one (ps_parH (q := a) rfl nd rfl rfl (by decide) rfl rfl (pa_cons (pv 5 rfl (.inl rfl)) (pa_cons (pe_lst (pa_cons (pe_xH (pv 5 rfl (.inl rfl))) pa_nil)) pa_nil)) (by rfl)))
      (.cons ⟨by rfl, by decide, .inl T.m_NoKinds⟩ (fun a cls d pn => pss_one (ps_parH (q := a) rfl nd rfl rfl (by decide) rfl rfl (pa_cons (pv 5 rfl (.inl rfl)) (pa_cons (pe_lst (pa_cons (pe_xH (pv 5 rfl (.inl rfl))) pa_nil)) pa_nil)) (by rfl)))
      (.cons ⟨by rfl, by decide, .inl T.m_Clash⟩ (fun a cls d pn => pss_one (ps_parH (q := a) rfl nd rfl rfl (by decide) rfl rfl (pa_cons (pv 5 rfl (.inl rfl)) (pa_cons (pe_lst (pa_cons (pe_xH (pv 5 rfl (.inl rfl))) (pa_cons (pe_xH (pv 5 rfl (.inl rfl))) pa_nil))) pa_nil)) (by rfl)))
      (.cons ⟨by rfl, by decide, .inl T.m_Endless⟩ (fun a cls d pn => pss_one (ps_parH (q := a) rfl nd rfl rfl (by decide) rfl rfl (pa_cons (pv 5 rfl (.inl rfl)) (pa_cons (pe_lst (pa_cons (pe_xH (pv 5 rfl (.inl rfl))) pa_nil)) pa_nil)) (by rfl)))
      (.cons ⟨by rfl, by decide, .inl T.m_NoLine⟩ (fun a cls d pn => pss_one (ps_set (i := 3) nd rfl (Or.inl rfl) (pv 5 rfl (.inl rfl)))) .nil))))))
    (pss_one (ps_ret (pe_tup (pa_cons (pe_callG G.law_classes hr (by rfl) T.m_law_classes T.f_law_classes.kp T.b_law_classes pass0 (pa_cons (pv 3 rfl (.inl rfl)) pa_nil)) (pa_cons (pv 4 rfl (.inl rfl)) pa_nil)))))),
    raised_ok T.x_tab ⟨T.c_NoText.xf, T.c_NoKinds.xf, T.c_Clash.xf, T.c_Endless.xf, T.c_NoText.no _ (by decide), T.c_NoKinds.no _ (by decide), T.c_Clash.no _ (by decide), T.c_Clash.no _ (by decide), T.c_Endless.no _ (by decide)⟩ hi
      fun a pv dd H3 f he hpv hv => raised_end ok rx ry hi (by rw [hc1] <;> rfl) f he hpv hv rfl rfl fun v H' f' r' => q v H' f' (fun j k m z _ => nomatch z) r'⟩

theorem all_ok (T : Tp w K mg fds) (hB : (base.get? sysModules).isSome = true) : ∀ n, AllOk P w K mg base fds n (fs n)
  | 0 => ⟨notyetL, notyet, notyet, notyetS (fun vs H Q E h => nomatch (show false = true from h.1)), notyet, notyet, (fun h => nomatch (show false = true from h)), (fun h => nomatch (show false = true from h))⟩
  | n + 1 => by
    have G := all_ok T hB n
    exact ⟨ok_law_hand T hB G, ok_law_take T hB G, ok_law_of T hB G, ok_law_classes T hB G, ok_law_raised T hB G, ok_law T hB G, fun _ => ⟨init_NoText T, init_NoKinds T, init_Clash T, init_Endless T⟩, fun h => ⟨n, rfl, G.inits h⟩⟩
end
def d_law_hand : He.DefD := ⟨(("_law_hand" : Str), none), ("_law_hand" : Str), ("_law_hand" : Str), defArgs s_law_hand, defBody s_law_hand, defScope s_law_hand, [], []⟩
def d_law_take : He.DefD := ⟨(("_law_take" : Str), none), ("_law_take" : Str), ("_law_take" : Str), defArgs s_law_take, defBody s_law_take, defScope s_law_take, [], []⟩
def d_law_of : He.DefD := ⟨(("_law_of" : Str), none), ("_law_of" : Str), ("_law_of" : Str), defArgs s_law_of, defBody s_law_of, defScope s_law_of, [], []⟩
def d_law_classes : He.DefD := ⟨(("_law_classes" : Str), none), ("_law_classes" : Str), ("_law_classes" : Str), defArgs s_law_classes, defBody s_law_classes, defScope s_law_classes, [], []⟩
def d_law_raised : He.DefD := ⟨(("_law_raised" : Str), none), ("_law_raised" : Str), ("_law_raised" : Str), defArgs s_law_raised, defBody s_law_raised, defScope s_law_raised, [], []⟩
def d_law : He.DefD := ⟨(("law" : Str), none), ("law" : Str), ("law" : Str), defArgs s_law, defBody s_law, defScope s_law, [], []⟩
def d_NoText : He.DefD := ⟨(("NoText" : Str), some ("__init__" : Str)), ("__init__" : Str), ("NoText.__init__" : Str), defArgs (inCls s_NoText 0), defBody (inCls s_NoText 0), defScope (inCls s_NoText 0), [], []⟩
def d_NoKinds : He.DefD := ⟨(("NoKinds" : Str), some ("__init__" : Str)), ("__init__" : Str), ("NoKinds.__init__" : Str), defArgs (inCls s_NoKinds 0), defBody (inCls s_NoKinds 0), defScope (inCls s_NoKinds 0), [], []⟩
def d_Clash : He.DefD := ⟨(("Clash" : Str), some ("__init__" : Str)), ("__init__" : Str), ("Clash.__init__" : Str), defArgs (inCls s_Clash 0), defBody (inCls s_Clash 0), defScope (inCls s_Clash 0), [], []⟩
def d_Endless : He.DefD := ⟨(("Endless" : Str), some ("__init__" : Str)), ("__init__" : Str), ("Endless.__init__" : Str), defArgs (inCls s_Endless 0), defBody (inCls s_Endless 0), defScope (inCls s_Endless 0), [], []⟩
def fn : List He.DefD := [d_law_hand, d_law_take, d_law_of, d_law_classes, d_law_raised, d_law, d_NoText, d_NoKinds, d_Clash, d_Endless]
def fa : List He.Fa := [.glo ("_law_hand" : Str), .glo ("_law_take" : Str), .glo ("_law_of" : Str), .glo ("_law_classes" : Str), .glo ("_law_raised" : Str), .glo ("law" : Str), .free ("LookupError" : Str), .free ("RuntimeError" : Str), .free ("TypeError" : Str), .free ("ValueError" : Str), .free ("abs" : Str), .free ("int" : Str), .free ("isinstance" : Str), .free ("len" : Str), .free ("max" : Str), .free ("min" : Str), .free ("range" : Str), .free ("repr" : Str), .glo ("NoText" : Str), .glo ("NoKinds" : Str), .glo ("Clash" : Str), .glo ("Endless" : Str), .glo ("NoLine" : Str)]
def ts : List He.Tab := []
def ex (K : PySem.W.Frag) : Bool := [noLst K, clsIB K ("NoText" : Str) "ValueError" "ValueError.__new__" "ValueError.__init__" [("row" : Str)], clsIB K ("NoKinds" : Str) "TypeError" "TypeError.__new__" "TypeError.__init__" [("place" : Str)], clsIB K ("Clash" : Str) "RuntimeError" "RuntimeError.__new__" "RuntimeError.__init__" [("place" : Str), ("other" : Str)], clsIB K ("Endless" : Str) "LookupError" "LookupError.__new__" "LookupError.__init__" [("place" : Str)], clsNB K ("NoLine" : Str) "ValueError" "ValueError.__new__", exT K].all id
set_option maxHeartbeats 4000000 in
theorem tp_of {w : World} {h : Heap} {K : PySem.W.Frag} {mg : Str → Option Value} (X : K.In h) (G : h.Ns mainGlobals mg) (c : He.SaysX fa fn ts [] ex w h K) : ∃ fds, Tp w K mg fds := by
  obtain ⟨fd0, F0⟩ := c.t.d.def_ 0 (d := d_law_hand) rfl
  obtain ⟨fd1, F1⟩ := c.t.d.def_ 1 (d := d_law_take) rfl
  obtain ⟨fd2, F2⟩ := c.t.d.def_ 2 (d := d_law_of) rfl
  obtain ⟨fd3, F3⟩ := c.t.d.def_ 3 (d := d_law_classes) rfl
  obtain ⟨fd4, F4⟩ := c.t.d.def_ 4 (d := d_law_raised) rfl
  obtain ⟨fd5, F5⟩ := c.t.d.def_ 5 (d := d_law) rfl
  obtain ⟨fd6, F6⟩ := c.t.d.def_ 6 (d := d_NoText) rfl
  obtain ⟨fd7, F7⟩ := c.t.d.def_ 7 (d := d_NoKinds) rfl
  obtain ⟨fd8, F8⟩ := c.t.d.def_ 8 (d := d_Clash) rfl
  obtain ⟨fd9, F9⟩ := c.t.d.def_ 9 (d := d_Endless) rfl
  have hx := List.all_eq_true.mp c.more
  refine ⟨fun i => match i with | 0 => fd0 | 1 => fd1 | 2 => fd2 | 3 => fd3 | 4 => fd4 | 5 => fd5 | 6 => fd6 | 7 => fd7 | 8 => fd8 | 9 => fd9 | _ => fd0, ?_⟩
  exact ⟨F0,
    F0.bindsN fun _ _ _ _ _ _ us hl => match us, hl with | [_, _], _ => rfl,
    He.glo_ok X G (c.t.d.fact 0 (f := .glo ("_law_hand" : Str)) rfl),
    F1,
    F1.bindsN fun _ _ _ _ _ _ us hl => match us, hl with | [_, _], _ => rfl,
    He.glo_ok X G (c.t.d.fact 1 (f := .glo ("_law_take" : Str)) rfl),
    F2,
    F2.bindsN fun _ _ _ _ _ _ us hl => match us, hl with | [_, _], _ => rfl,
    He.glo_ok X G (c.t.d.fact 2 (f := .glo ("_law_of" : Str)) rfl),
    F3,
    F3.bindsN fun _ _ _ _ _ _ us hl => match us, hl with | [_], _ => rfl,
    He.glo_ok X G (c.t.d.fact 3 (f := .glo ("_law_classes" : Str)) rfl),
    F4,
    F4.bindsN fun _ _ _ _ _ _ us hl => match us, hl with | [_, _, _], _ => rfl,
    He.glo_ok X G (c.t.d.fact 4 (f := .glo ("_law_raised" : Str)) rfl),
    F5,
    F5.bindsN fun _ _ _ _ _ _ us hl => match us, hl with | [_], _ => rfl,
    He.glo_ok X G (c.t.d.fact 5 (f := .glo ("law" : Str)) rfl),
    He.free_ok X G (c.t.d.fact 6 (f := .free ("LookupError" : Str)) rfl),
    He.free_ok X G (c.t.d.fact 7 (f := .free ("RuntimeError" : Str)) rfl),
    He.free_ok X G (c.t.d.fact 8 (f := .free ("TypeError" : Str)) rfl),
    He.free_ok X G (c.t.d.fact 9 (f := .free ("ValueError" : Str)) rfl),
    He.free_ok X G (c.t.d.fact 10 (f := .free ("abs" : Str)) rfl),
    He.free_ok X G (c.t.d.fact 11 (f := .free ("int" : Str)) rfl),
    He.free_ok X G (c.t.d.fact 12 (f := .free ("isinstance" : Str)) rfl),
    He.free_ok X G (c.t.d.fact 13 (f := .free ("len" : Str)) rfl),
    He.free_ok X G (c.t.d.fact 14 (f := .free ("max" : Str)) rfl),
    He.free_ok X G (c.t.d.fact 15 (f := .free ("min" : Str)) rfl),
    He.free_ok X G (c.t.d.fact 16 (f := .free ("range" : Str)) rfl),
    He.free_ok X G (c.t.d.fact 17 (f := .free ("repr" : Str)) rfl),
    He.glo_ok X G (c.t.d.fact 18 (f := .glo ("NoText" : Str)) rfl),
    clsIB_ok (hx _ (List.mem_of_getElem? (i := 1) rfl)),
    F6,
    F6.bindsN fun _ _ _ _ _ _ us hl => match us, hl with | [_, _], _ => rfl,
    He.glo_ok X G (c.t.d.fact 19 (f := .glo ("NoKinds" : Str)) rfl),
    clsIB_ok (hx _ (List.mem_of_getElem? (i := 2) rfl)),
    F7,
    F7.bindsN fun _ _ _ _ _ _ us hl => match us, hl with | [_, _], _ => rfl,
    He.glo_ok X G (c.t.d.fact 20 (f := .glo ("Clash" : Str)) rfl),
    clsIB_ok (hx _ (List.mem_of_getElem? (i := 3) rfl)),
    F8,
    F8.bindsN fun _ _ _ _ _ _ us hl => match us, hl with | [_, _, _], _ => rfl,
    He.glo_ok X G (c.t.d.fact 21 (f := .glo ("Endless" : Str)) rfl),
    clsIB_ok (hx _ (List.mem_of_getElem? (i := 4) rfl)),
    F9,
    F9.bindsN fun _ _ _ _ _ _ us hl => match us, hl with | [_, _], _ => rfl,
    He.glo_ok X G (c.t.d.fact 22 (f := .glo ("NoLine" : Str)) rfl),
    clsNB_ok (hx _ (List.mem_of_getElem? (i := 5) rfl)),
    exT_ok (hx _ (List.mem_of_getElem? (i := 6) rfl))⟩
abbrev Rw : PySem.W.OpenRow := PySem.W.OpenLaw.row PySem.Challenge.rw_ownedtongue_k09_refusals_made_by_hand
abbrev hk : PySem.W.Hook := He.hookX 4 fa fn ts [] ex
def ob (s : PySem.W.SharedT) : He.AlX := He.obsX 4 fa fn ts [] ex (HandSHeadRun.getT s)
theorem ob_eq (s : PySem.W.SharedT) : ob s = hk.obs s.abs := He.obsX_eq (HandSHeadRun.getT_eq s)
def loose : List PySem.Str := [("_law_hand" : Str), ("_law_take" : Str), ("_law_of" : Str), ("_law_classes" : Str), ("_law_raised" : Str), ("NoText" : Str), ("NoKinds" : Str), ("Clash" : Str), ("Endless" : Str), ("NoLine" : Str)]
theorem run (w : World) : HandSHeadRun.RunEq Rw (PySem.W.view Rw.prog [12]) hk ob 4000 loose w := by
  intro os
  kernel_rfl
theorem noLst_ok {w : World} {h : Heap} {K : PySem.W.Frag} (c : He.SaysX fa fn ts [] ex w h K) : noLst K = true := List.all_eq_true.mp c.more _ (List.mem_of_getElem? (i := 0) rfl)
theorem take_ok {n k : Nat} {m : M} {many : Int} (h : Hd (k + 1) m) (hm : 0 < many) (hb : many.natAbs.log2 < 9000) : ∃ d m', (fs (n + 1)).law_take [B.o m, B.v (.int many)] = some (.int d, [B.o m']) ∧ 0 ≤ d ∧ d < many ∧ Hd k m' := by
  show ∃ d m', bodyFn [0] 4 (b_law_take (fs n)) [B.o m, B.v (.int many)] = some (.int d, [B.o m']) ∧ 0 ≤ d ∧ d < many ∧ Hd k m'
  obtain ⟨g, hh, c, rfl, h1, h2, h3, h4, h5⟩ := h
  by_cases hg : 0 < g
  · refine ⟨g % many, .lst [.int (g / many), .int hh, .int c], ?_, Int.emod_nonneg _ (by omega), Int.emod_lt_of_pos _ hm, g / many, hh, c, rfl, Int.ediv_nonneg h1 (by omega), h2, h3, h4, by omega⟩
    simp [szLe, bodyFn, bodyFnL, qSeq, fLst1, fCallL, sOwn, sPar2, sPar3, sSeq, sIf, sRet, sRetN, sNil, sAsg, sApp, sExpr, f1, f2, f1s, f2l, f2r, fV, fC, sSetI, getO, ownL, oIx, atI_0, atI_1, atI_2, ixN, oRel, asB, asI, pNo, fSl, fSls, oSl, oMod, oDiv, oAdd, oSub, oMul, oPow, τN, setE, outs, aNil, aV, aS, fB, fDisp, fCall, resAll, resG, onlyV, slotsG, argB, putB, fIf, fOr, fAnd, fOrV, fAndV, truD, oIs, isTup, isStr, isBool, isInt, isList, oEq, oNe, eqB, scB, oIn, oNotIn, inB, flatP, eqF, oInT, oIxT, itT, itL, itS, vL, cutP_1, cutP_0, cutP_lo, cutP_hi, oLen, oList, oTup, oAbs_i, oInt_b, oInt_i, lg7, lg7919, lg104729, lg60, oMax, oMin, beqS, b_law_take, hm, hg, hb]
  · have hg0 : ¬ (g > 0) := hg
    obtain ⟨j, hj, ej⟩ := modBit ((c + 1) % 8) 8 (by omega) (by omega)
    obtain ⟨p, hp, ep⟩ : ∃ p : Int, (2 ^ 30 ≤ p ∧ p < 2 ^ 31) ∧ atI [PyData.int 2147483647, .int 2147483629, .int 2147483587, .int 2147483579, .int 2147483563, .int 2147483549, .int 2147483543, .int 2147483497] ((c + 1) % 8) = some (.int p) := by
      rw [ej]
      match j, hj with
      | 0, _ => exact ⟨2147483647, by decide, atI_nat (i := 0) rfl⟩
      | 1, _ => exact ⟨2147483629, by decide, atI_nat (i := 1) rfl⟩
      | 2, _ => exact ⟨2147483587, by decide, atI_nat (i := 2) rfl⟩
      | 3, _ => exact ⟨2147483579, by decide, atI_nat (i := 3) rfl⟩
      | 4, _ => exact ⟨2147483563, by decide, atI_nat (i := 4) rfl⟩
      | 5, _ => exact ⟨2147483549, by decide, atI_nat (i := 5) rfl⟩
      | 6, _ => exact ⟨2147483543, by decide, atI_nat (i := 6) rfl⟩
      | 7, _ => exact ⟨2147483497, by decide, atI_nat (i := 7) rfl⟩
    obtain ⟨hp1, hp2⟩ := hp
    have p0 : 0 < p := by omega
    have a1 : 12 + (c + 1).natAbs.log2 < 1000000 := by
      have := log2_lt (i := c + 1) (k := 100) (by decide) (by omega)
      omega
    have a2 : (hh + 7919 * (c + 1)).natAbs < 18446744073709551616 := by omega
    generalize ed : (hh + 7919 * (c + 1)) ^ 5 % p = dr
    have d0 : 0 ≤ dr := by rw [← ed]; exact Int.emod_nonneg _ (by omega)
    have d1 : dr < p := by rw [← ed]; exact Int.emod_lt_of_pos _ p0
    have a3 : dr.natAbs.log2 + (dr % 1009 + (c + 1)).natAbs.log2 < 1000000 := by
      have := log2_lt (i := dr) (k := 100) (by decide) (by omega)
      have := log2_lt (i := dr % 1009 + (c + 1)) (k := 100) (by decide) (by omega)
      omega
    refine ⟨dr * (dr % 1009 + (c + 1)) % p / 7 % many, .lst [.int g, .int hh, .int (c + 1)], ?_, Int.emod_nonneg _ (by omega), Int.emod_lt_of_pos _ hm, g, hh, c + 1, rfl, h1, h2, h3, by omega, by omega⟩
    simp [szLe, bodyFn, bodyFnL, qSeq, fLst1, fCallL, sOwn, sPar2, sPar3, sSeq, sIf, sRet, sRetN, sNil, sAsg, sApp, sExpr, f1, f2, f1s, f2l, f2r, fV, fC, sSetI, getO, ownL, oIx, atI_0, atI_1, atI_2, ixN, oRel, asB, asI, pNo, fSl, fSls, oSl, oMod, oDiv, oAdd, oSub, oMul, oPow, τN, setE, outs, aNil, aV, aS, fB, fDisp, fCall, resAll, resG, onlyV, slotsG, argB, putB, fIf, fOr, fAnd, fOrV, fAndV, truD, oIs, isTup, isStr, isBool, isInt, isList, oEq, oNe, eqB, scB, oIn, oNotIn, inB, flatP, eqF, oInT, oIxT, itT, itL, itS, vL, cutP_1, cutP_0, cutP_lo, cutP_hi, oLen, oList, oTup, oAbs_i, oInt_b, oInt_i, lg7, lg7919, lg104729, lg60, oMax, oMin, beqS, b_law_take, hm, hg, ep, p0, a1, a2, a3, ed]
theorem of_ok {n k : Nat} {m : M} {xs : List PyData} (h : Hd (k + 1) m) (h0 : 0 < xs.length) (hb : xs.length < 2 ^ 30) : ∃ d ∈ xs, ∃ m', (fs (n + 2)).law_of [B.o m, B.v (.list xs)] = some (d, [B.o m']) ∧ Hd k m' := by
  show ∃ d ∈ xs, ∃ m', bodyFn [0] 0 (b_law_of (fs (n + 1))) [B.o m, B.v (.list xs)] = some (d, [B.o m']) ∧ Hd k m'
  obtain ⟨i, m', e, h1, h2, h3⟩ := take_ok (n := n) (k := k) (m := m) (many := xs.length) h (by omega) (Nat.lt_of_lt_of_le (log2_lt (k := 31) (by decide) (by omega)) (by decide))
  obtain ⟨x, hx, e2, _⟩ := atI_in h1 h2
  refine ⟨x, hx, m', ?_, h3⟩
  simp [szLe, bodyFn, bodyFnL, qSeq, fLst1, fCallL, sOwn, sPar2, sPar3, sSeq, sIf, sRet, sRetN, sNil, sAsg, sApp, sExpr, f1, f2, f1s, f2l, f2r, fV, fC, sSetI, getO, ownL, oIx, atI_0, atI_1, atI_2, ixN, oRel, asB, asI, pNo, fSl, fSls, oSl, oMod, oDiv, oAdd, oSub, oMul, oPow, τN, setE, outs, aNil, aV, aS, fB, fDisp, fCall, resAll, resG, onlyV, slotsG, argB, putB, fIf, fOr, fAnd, fOrV, fAndV, truD, oIs, isTup, isStr, isBool, isInt, isList, oEq, oNe, eqB, scB, oIn, oNotIn, inB, flatP, eqF, oInT, oIxT, itT, itL, itS, vL, cutP_1, cutP_0, cutP_lo, cutP_hi, oLen, oList, oTup, oAbs_i, oInt_b, oInt_i, lg7, lg7919, lg104729, lg60, oMax, oMin, beqS, b_law_of, e, e2]
theorem of_okI {n k : Nat} {m : M} {xs : List PyData} (h : Hd (k + 1) m) (h0 : 0 < xs.length) (hb : xs.length < 2 ^ 30) : ∃ (i : Nat) (d : PyData), xs[i]? = some d ∧ ∃ m', (fs (n + 2)).law_of [B.o m, B.v (.list xs)] = some (d, [B.o m']) ∧ Hd k m' := by
  obtain ⟨d, hd, m', e, h'⟩ := of_ok (n := n) h h0 hb
  obtain ⟨i, hi, e2⟩ := List.mem_iff_getElem.mp hd
  exact ⟨i, d, by rw [List.getElem?_eq_getElem hi, e2], m', e, h'⟩
theorem hand_ok {n : Nat} {ns : List Int} {i : Int} (h0 : 0 ≤ i) (h1 : i < 1000) : ∃ m, (fs (n + 1)).law_hand [B.v (.list (ns.map .int)), B.v (.int i)] = some (m, []) ∧ Hd (2 ^ 40) (.lst m) := by
  show ∃ m, bodyFnL [] 2 (b_law_hand (fs n)) [B.v (.list (ns.map .int)), B.v (.int i)] = some (m, []) ∧ Hd (2 ^ 40) (.lst m)
  have key : ∀ c : Int, ∃ g h a : Int, 0 ≤ g ∧ 0 ≤ h ∧ h < 2 ^ 62 ∧ 0 ≤ a ∧ a = absI c ∧ (a % 1000000000000000000000000000000000000000000000000000000000000000000000000000000000000000000000000000000000000000000000000).natAbs.log2 + (b2i (decide (1000000000000000000 ≤ a))).natAbs.log2 < 1000000 ∧
      g = a % 1000000000000000000000000000000000000000000000000000000000000000000000000000000000000000000000000000000000000000000000000 * b2i (decide (1000000000000000000 ≤ a)) ∧ h = c % 2305843009213693951 + 104729 * i + 7 := fun c => by
    refine ⟨_, _, absI c, ?_, ?_, ?_, absI_nn c, rfl, ?_, rfl, rfl⟩
    · exact Int.mul_nonneg (Int.emod_nonneg _ (by decide)) (b2i_nn _)
    · omega
    · omega
    · have := absI_nn c
      have := b2i_nn (decide (1000000000000000000 ≤ absI c))
      have := b2i_le (decide (1000000000000000000 ≤ absI c))
      have := log2_lt (i := absI c % 1000000000000000000000000000000000000000000000000000000000000000000000000000000000000000000000000000000000000000000000000) (k := 400) (by decide) (by omega)
      have := log2_lt (i := b2i (decide (1000000000000000000 ≤ absI c))) (k := 400) (by decide) (by omega)
      omega
  have li : 16 + i.natAbs.log2 < 1000000 := by
    have := log2_lt (i := i) (k := 400) (by decide) (by omega)
    omega
  have fin : ∀ c : Int, (∀ g h a, 0 ≤ g → 0 ≤ h → h < 2 ^ 62 → 0 ≤ a → a = absI c → (a % 1000000000000000000000000000000000000000000000000000000000000000000000000000000000000000000000000000000000000000000000000).natAbs.log2 + (b2i (decide (1000000000000000000 ≤ a))).natAbs.log2 < 1000000 →
      g = a % 1000000000000000000000000000000000000000000000000000000000000000000000000000000000000000000000000000000000000000000000000 * b2i (decide (1000000000000000000 ≤ a)) → h = c % 2305843009213693951 + 104729 * i + 7 →
      bodyFnL [] 2 (b_law_hand (fs n)) [B.v (.list (ns.map .int)), B.v (.int i)] = some ([.int g, .int h, .int 0], [])) → ∃ m, bodyFnL [] 2 (b_law_hand (fs n)) [B.v (.list (ns.map .int)), B.v (.int i)] = some (m, []) ∧ Hd (2 ^ 40) (.lst m) := fun c H => by
    obtain ⟨g, h, a, g0, q0, q1, a0, ea, la, eg, eh⟩ := key c
    exact ⟨_, H g h a g0 q0 q1 a0 ea la eg eh, g, h, 0, rfl, g0, q0, q1, by decide, by decide⟩
  by_cases hl : i < (ns.map PyData.int).length
  · obtain ⟨c, hc⟩ : ∃ c : Int, atI (ns.map PyData.int) i = some (.int c) := by
      obtain ⟨x, hx, e, _⟩ := atI_in h0 hl
      obtain ⟨c, _, rfl⟩ := List.mem_map.mp hx
      exact ⟨c, e⟩
    refine fin c fun g h a g0 q0 q1 a0 ea la eg eh => ?_
    simp at hl
    simp [szLe, bodyFn, bodyFnL, qSeq, fLst1, fCallL, sOwn, sPar2, sPar3, sSeq, sIf, sRet, sRetN, sNil, sAsg, sApp, sExpr, f1, f2, f1s, f2l, f2r, fV, fC, sSetI, getO, ownL, oIx, atI_0, atI_1, atI_2, ixN, oRel, asB, asI, pNo, fSl, fSls, oSl, oMod, oDiv, oAdd, oSub, oMul, oPow, τN, setE, outs, aNil, aV, aS, fB, fDisp, fCall, resAll, resG, onlyV, slotsG, argB, putB, fIf, fOr, fAnd, fOrV, fAndV, truD, oIs, isTup, isStr, isBool, isInt, isList, oEq, oNe, eqB, scB, oIn, oNotIn, inB, flatP, eqF, oInT, oIxT, itT, itL, itS, vL, cutP_1, cutP_0, cutP_lo, cutP_hi, oLen, oList, oTup, oAbs_i, oInt_b, oInt_i, lg7, lg7919, lg104729, lg60, oMax, oMin, beqS, b_law_hand, hc, hl, eg, eh, ← ea, la, li]
  · refine fin 0 fun g h a g0 q0 q1 a0 ea la eg eh => ?_
    have e0 : a = 0 := ea
    subst e0
    simp at hl
    have hl' : ¬ i < (ns.length : Int) := by omega
    have lb : (b2i false).natAbs.log2 = 0 := by decide
    simp [szLe, bodyFn, bodyFnL, qSeq, fLst1, fCallL, sOwn, sPar2, sPar3, sSeq, sIf, sRet, sRetN, sNil, sAsg, sApp, sExpr, f1, f2, f1s, f2l, f2r, fV, fC, sSetI, getO, ownL, oIx, atI_0, atI_1, atI_2, ixN, oRel, asB, asI, pNo, fSl, fSls, oSl, oMod, oDiv, oAdd, oSub, oMul, oPow, τN, setE, outs, aNil, aV, aS, fB, fDisp, fCall, resAll, resG, onlyV, slotsG, argB, putB, fIf, fOr, fAnd, fOrV, fAndV, truD, oIs, isTup, isStr, isBool, isInt, isList, oEq, oNe, eqB, scB, oIn, oNotIn, inB, flatP, eqF, oInT, oIxT, itT, itL, itS, vL, cutP_1, cutP_0, cutP_lo, cutP_hi, oLen, oList, oTup, oAbs_i, oInt_b, oInt_i, lg7, lg7919, lg104729, lg60, oMax, oMin, beqS, b_law_hand, hl', eg, eh, ← ea, li, lb]




theorem fsN {N c : Nat} (h : c + 1 ≤ N) : ∃ n, N = n + 1 ∧ c ≤ n := ⟨N - 1, by omega, by omega⟩
theorem lg40 {i : Int} (h0 : 0 ≤ i) (h : i ≤ 2 ^ 40) : i.natAbs.log2 < 9000 :=
  Nat.lt_of_lt_of_le (log2_lt (k := 41) (by decide) (by omega)) (by decide)
theorem take_r {N k : Nat} {m : M} {many : Int} {Q : PyData → Env' → Prop} (hN : 1 ≤ N) (h : Hd (k + 1) m) (hm : 0 < many) (hb : many ≤ 2 ^ 40)
    (q : ∀ i m', 0 ≤ i → i < many → Hd k m' → Q (.int i) [B.o m']) : wc (fs N).law_take [B.o m, B.v (.int many)] Q := by
  obtain ⟨n, rfl, _⟩ := fsN (c := 0) hN
  obtain ⟨i, m', e, h1, h2, h3⟩ := take_ok (n := n) h hm (lg40 (by omega) hb)
  rw [wc_eq e]
  exact q i m' h1 h2 h3
theorem of_r {N k : Nat} {m : M} {xs : List PyData} {Q : PyData → Env' → Prop} (hN : 2 ≤ N) (h : Hd (k + 1) m) (h0 : 0 < xs.length) (hb : xs.length < 2 ^ 30)
    (q : ∀ d m', d ∈ xs → Hd k m' → Q d [B.o m']) : wc (fs N).law_of [B.o m, B.v (.list xs)] Q := by
  obtain ⟨n, rfl, hn⟩ := fsN (c := 1) hN
  obtain ⟨n, rfl, _⟩ := fsN (c := 0) hn
  obtain ⟨d, hd, m', e, h3⟩ := of_ok (n := n) h h0 hb
  rw [wc_eq e]
  exact q d m' hd h3
theorem sgn_len (z : Str) : (sgn z).length = z.length := by
  unfold sgn
  rw [List.length_map, Array.length_toList]
  rfl
theorem ofs_r {N k : Nat} {m : M} {z : Str} {Q : PyData → Env' → Prop} (hN : 2 ≤ N) (h : Hd (k + 1) m) (h0 : 0 < z.length) (hb : z.length < 2 ^ 30)
    (q : ∀ d m', d ∈ sgn z → Hd k m' → Q d [B.o m']) : wc (fs N).law_of [B.o m, B.v (.str z)] Q := by
  obtain ⟨n, rfl, hn⟩ := fsN (c := 1) hN
  show wc (bodyFn [0] 0 (b_law_of (fs n))) _ _
  unfold b_law_of
  simp only [↓kW, kP, String.reduceEq, Nat.reduceAdd, Nat.reduceSub, Nat.reduceMul, Nat.reducePow, Nat.reduceLT, Nat.reduceLeDiff, Nat.reduceEqDiff, Int.reduceAdd, Int.reduceSub, Int.reduceMul, Int.reduceNeg, Int.reducePow, Int.reduceLT, Int.reduceLE, Int.reduceEq, Int.reduceAbs, Int.reduceToNat, reduceCtorEq]
  refine take_r (many := (z.length : Int)) hn h (by omega) (by omega) fun i m' h1 h2 h3 => ?_
  have hl : z.cps.toList.length = z.length := Array.length_toList
  obtain ⟨x, hx, e2, _⟩ := atI_in (xs := z.cps.toList) h1 (by rw [hl]; exact h2)
  simp only [↓kW, kP, String.reduceEq, Nat.reduceAdd, Nat.reduceSub, Nat.reduceMul, Nat.reducePow, Nat.reduceLT, Nat.reduceLeDiff, Nat.reduceEqDiff, Int.reduceAdd, Int.reduceSub, Int.reduceMul, Int.reduceNeg, Int.reducePow, Int.reduceLT, Int.reduceLE, Int.reduceEq, Int.reduceAbs, Int.reduceToNat, reduceCtorEq, e2]
  exact q _ _ (List.mem_map.mpr ⟨x, hx, rfl⟩) h3




theorem len_rng' (lo : Int) (n : Nat) : (rngD lo n).length = n := by simp [rngD]
theorem itR_0 {n : Int} (h0 : 0 ≤ n) (h1 : n ≤ 1000000) : itR 0 n = some (rngD 0 n.toNat) := by
  unfold itR
  rw [if_pos ⟨by decide, by decide, by omega, by omega, by rw [szLe]; omega⟩, Int.sub_zero]

/-! ### how long a thing's text is -/
mutual
def nice : PyData → Bool
  | .none => true
  | .bool _ => true
  | .int i => decide (i.natAbs < 10 ^ 19)
  | .str z => z.cps.toList.all fun c => decide (c < 1000000)
  | .tuple xs => niceL xs
  | .list xs => niceL xs
  | .dict kvs => kvs.isEmpty
def niceL : List PyData → Bool
  | [] => true
  | x :: xs => nice x && niceL xs
end
mutual
def wt : PyData → Nat
  | .none => 8
  | .bool _ => 8
  | .int _ => 24
  | .str z => 10 * z.length + 2
  | .tuple xs => 4 + wtL xs
  | .list xs => 4 + wtL xs
  | .dict _ => 2
def wtL : List PyData → Nat
  | [] => 0
  | x :: xs => wt x + 2 + wtL xs
end
theorem wtL_app : ∀ xs ys : List PyData, wtL (xs ++ ys) = wtL xs + wtL ys
  | [], ys => by simp [wtL]
  | x :: xs, ys => by simp [wtL, wtL_app xs ys]; omega
theorem niceL_app : ∀ xs ys : List PyData, niceL (xs ++ ys) = (niceL xs && niceL ys)
  | [], ys => by simp [niceL]
  | x :: xs, ys => by simp [niceL, niceL_app xs ys, Bool.and_assoc]
theorem niceL_mem : ∀ {xs : List PyData} {x : PyData}, niceL xs = true → x ∈ xs → nice x = true
  | y :: ys, x, h, hx => by
    simp only [niceL, Bool.and_eq_true] at h
    rcases List.mem_cons.mp hx with rfl | hx
    · exact h.1
    · exact niceL_mem h.2 hx
theorem niceL_of : ∀ {xs : List PyData}, (∀ x ∈ xs, nice x = true) → niceL xs = true
  | [], _ => rfl
  | y :: ys, h => by
    simp only [niceL, Bool.and_eq_true]
    exact ⟨h y List.mem_cons_self, niceL_of fun x hx => h x (List.mem_cons_of_mem _ hx)⟩
theorem wtL_mem : ∀ {xs : List PyData} {x : PyData}, x ∈ xs → wt x + 2 ≤ wtL xs
  | y :: ys, x, hx => by
    rcases List.mem_cons.mp hx with rfl | hx
    · simp only [wtL]; omega
    · have := wtL_mem hx; simp only [wtL]; omega
theorem wtL_len : ∀ xs : List PyData, 2 * xs.length ≤ wtL xs
  | [] => by simp
  | x :: xs => by have := wtL_len xs; simp only [wtL, List.length_cons]; omega
theorem wtL_le : ∀ {xs : List PyData} {w : Nat}, (∀ x ∈ xs, wt x + 2 ≤ w) → wtL xs ≤ xs.length * w
  | [], _, _ => by simp [wtL]
  | x :: xs, w, h => by
    have h1 := h x List.mem_cons_self
    have h2 := wtL_le (xs := xs) fun y hy => h y (List.mem_cons_of_mem _ hy)
    simp only [wtL, List.length_cons, Nat.succ_mul]; omega
mutual
theorem nice_showable : ∀ d : PyData, nice d = true → d.showable = true
  | .none, _ => rfl
  | .bool _, _ => rfl
  | .int i, h => by
    have h1 : i.natAbs < 10 ^ 19 := of_decide_eq_true h
    exact decide_eq_true (Nat.lt_of_lt_of_le (log2_lt (i := i) (k := 70) (by decide) (by omega)) (by decide))
  | .str _, _ => rfl
  | .tuple xs, h => nice_showableL xs h
  | .list xs, h => nice_showableL xs h
  | .dict kvs, h => by cases kvs with
    | nil => rfl
    | cons _ _ => cases h
theorem nice_showableL : ∀ xs : List PyData, niceL xs = true → PyData.showableAll xs = true
  | [], _ => rfl
  | x :: xs, h => by
    simp only [niceL, Bool.and_eq_true] at h
    show (x.showable && PyData.showableAll xs) = true
    rw [nice_showable x h.1, nice_showableL xs h.2]
    rfl
end
theorem len_app (x y : Str) : (x ++ y).length = x.length + y.length := length_append_str x y
theorem len_ofS (s : String) : (Str.ofString s).length = s.length := by
  rw [Str.ofString_eq_toList]
  show (s.toList.map Char.toNat).toArray.size = _
  rw [List.size_toArray, List.length_map, String.length_toList]
theorem textFrom_le : ∀ (ts : List Str) (k : Nat) (acc : Str), (textFrom k acc ts).length ≤ acc.length + ((ts.map (·.length)).sum + 2 * ts.length)
  | [], k, acc => by show acc.length ≤ _; omega
  | t :: r, k, acc => by
    have h := textFrom_le r (k + 1) (acc ++ (if k > 0 then ", " else "" : String) ++ t)
    have e : (acc ++ (if k > 0 then ", " else "" : String) ++ t).length ≤ acc.length + 2 + t.length := by
      rw [len_app, len_app]
      split
      · show _ + 2 + _ ≤ _; omega
      · show _ + 0 + _ ≤ _; omega
    show (textFrom (k + 1) (acc ++ (if k > 0 then ", " else "" : String) ++ t) r).length ≤ _
    rw [List.map_cons, List.sum_cons, List.length_cons]
    omega
mutual
theorem shown_wt : ∀ d : PyData, nice d = true → d.shown.length ≤ wt d
  | .none, _ => by decide
  | .bool b, _ => by cases b <;> decide
  | .int i, h => by
    have h1 : i.natAbs < 10 ^ 19 := of_decide_eq_true h
    show (Str.ofString (toString i)).length ≤ 24
    rw [len_ofS]
    have := int_text_length_le10 (k := 19) (by decide) h1
    omega
  | .str z, h => by
    have h1 := List.all_eq_true.mp h
    exact StrLaws.reprText_len z fun c hc => Nat.lt_trans (of_decide_eq_true (h1 c hc)) (by decide)
  | .tuple xs, h => by
    have ih := shown_wtL xs h
    show (("(" : Str) ++ Str.join ", " (PyData.shownAll xs) ++ (if (PyData.shownAll xs).length == 1 then ",)" else ")" : String)).length ≤ 4 + wtL xs
    have j := StrLaws.join_length_le ", " (PyData.shownAll xs)
    have j2 : ((", " : String) : Str).length = 2 := rfl
    have j3 : (("(" : String) : Str).length = 1 := rfl
    rw [j2] at j
    rw [len_app, len_app, j3]
    split
    · show _ + 2 ≤ _; omega
    · show _ + 1 ≤ _; omega
  | .list xs, h => by
    have ih := shown_wtL xs h
    show (textFrom 0 "[" (PyData.shownAll xs) ++ "]").length ≤ 4 + wtL xs
    have j := textFrom_le (PyData.shownAll xs) 0 "["
    have j3 : (("[" : String) : Str).length = 1 := rfl
    have j4 : (("]" : String) : Str).length = 1 := rfl
    rw [len_app, j4]
    omega
  | .dict kvs, h => by cases kvs with
    | nil => decide
    | cons _ _ => cases h
theorem shown_wtL : ∀ xs : List PyData, niceL xs = true → ((PyData.shownAll xs).map (·.length)).sum + (PyData.shownAll xs).length * 2 ≤ wtL xs
  | [], _ => by decide
  | x :: xs, h => by
    simp only [niceL, Bool.and_eq_true] at h
    have h1 := shown_wt x h.1
    have h2 := shown_wtL xs h.2
    simp only [PyData.shownAll, List.map_cons, List.sum_cons, List.length_cons, wtL]
    omega
end
theorem reprOk_of {d : PyData} (h1 : nice d = true) (h2 : d.depth < 60) (h3 : wt d ≤ 16777216) : reprOk d = true := by
  unfold reprOk
  rw [nice_showable d h1, decide_eq_true h2, decide_eq_true (Nat.le_trans (shown_wt d h1) h3)]
  rfl
theorem depth_tup {n : Nat} {xs : List PyData} (h : ∀ x ∈ xs, x.depth ≤ n) : (PyData.tuple xs).depth ≤ n + 1 := by
  have : ∀ xs : List PyData, (∀ x ∈ xs, x.depth ≤ n) → PyData.depthAll xs ≤ n := fun xs => by
    induction xs with
    | nil => exact fun _ => Nat.zero_le _
    | cons x xs ih =>
      intro h
      have h1 := h x List.mem_cons_self
      have h2 := ih fun y hy => h y (List.mem_cons_of_mem _ hy)
      show max x.depth (PyData.depthAll xs) ≤ n
      omega
  have := this xs h
  show PyData.depthAll xs + 1 ≤ _
  omega
theorem depth_mem : ∀ {xs : List PyData} {x : PyData}, x ∈ xs → x.depth ≤ PyData.depthAll xs
  | y :: ys, x, hx => by
    show _ ≤ max y.depth (PyData.depthAll ys)
    rcases List.mem_cons.mp hx with rfl | hx
    · omega
    · have := depth_mem hx; omega




theorem cells2 (len : Nat) : ∃ r : Nat, r ≤ 2 ∧ itR 0 (if 1 < if (len : Int) < 2 then (len : Int) else 2 then if (len : Int) < 2 then (len : Int) else 2 else 1) = some (rngD 0 r) := by
  by_cases c : (len : Int) < 2
  · refine ⟨1, by decide, ?_⟩
    rw [if_pos c, if_neg (by omega)]
    rfl
  · refine ⟨2, by decide, ?_⟩
    rw [if_neg c, if_pos (by decide)]
    rfl

theorem hand_r {N : Nat} {ns : List Int} {i : Nat} {Q : List PyData → Env' → Prop} (hN : 1 ≤ N) (hi : i < 1000) (q : ∀ m, Hd (2 ^ 40) (.lst m) → Q m []) : wc (fs N).law_hand [B.v (.list (ns.map .int)), B.v (.int i)] Q := by
  obtain ⟨n, rfl⟩ : ∃ n, N = n + 1 := ⟨N - 1, by omega⟩
  obtain ⟨m, e, hm⟩ := hand_ok (n := n) (ns := ns) (i := (i : Int)) (by omega) (by omega)
  rw [wc_eq e]
  exact q m hm




/-- the things that are drawn -/
def some9 (t : Int) : List PyData := [.int 0, .int 7, .none, .str "", .tuple [.str "main", .int (-1)], .tuple [.str "f", .int t], .tuple [], .int 100000000000000000, .bool false, .str "7"]
theorem some9_ok {t : Int} {d : PyData} (h0 : 0 ≤ t) (h1 : t < 99) (h : d ∈ some9 t) : nice d = true ∧ d.depth ≤ 1 ∧ wt d ≤ 100 := by
  unfold some9 at h
  simp only [List.mem_cons, List.not_mem_nil, or_false] at h
  have ht : t.natAbs < 10 ^ 19 := by omega
  rcases h with rfl | rfl | rfl | rfl | rfl | rfl | rfl | rfl | rfl | rfl
  · decide
  · decide
  · decide
  · decide
  · decide
  · refine ⟨?_, ?_, ?_⟩
    · simp only [nice, niceL, decide_eq_true ht, Bool.and_true]; decide
    · simp [PyData.depth, PyData.depthAll]
    · simp only [wt, wtL]; decide
  · decide
  · decide
  · decide
  · decide
theorem repr_vals {i : Nat} (hi : i < 5) {x y : PyData} (hx : nice x = true ∧ x.depth ≤ 1 ∧ wt x ≤ 100) (hy : nice y = true ∧ y.depth ≤ 1 ∧ wt y ≤ 100) : oRepr [.list (vals5 i x y)] = some (.str (PyData.list (vals5 i x y)).shown) := by
  obtain ⟨x1, x2, x3⟩ := hx
  obtain ⟨y1, y2, y3⟩ := hy
  have ok : reprOk (.list (vals5 i x y)) = true := by
    match i, hi with
    | 0, _ => exact reprOk_of (by simp [vals5, nice, niceL, x1]) (by simp [vals5, PyData.depth, PyData.depthAll]; omega) (by simp only [vals5, wt, wtL]; omega)
    | 1, _ => exact reprOk_of (by simp [vals5, nice, niceL, x1]) (by simp [vals5, PyData.depth, PyData.depthAll]; omega) (by simp only [vals5, wt, wtL]; omega)
    | 2, _ => exact reprOk_of (by simp [vals5, nice, niceL, x1, y1]) (by simp [vals5, PyData.depth, PyData.depthAll]; omega) (by simp only [vals5, wt, wtL]; omega)
    | 3, _ => exact reprOk_of (by simp [vals5, nice, niceL, x1]) (by simp [vals5, PyData.depth, PyData.depthAll]; omega) (by simp only [vals5, wt, wtL]; omega)
    | 4, _ => exact reprOk_of (by simp [vals5, nice, niceL]) (by simp [vals5, PyData.depth, PyData.depthAll]) (by simp only [vals5, wt, wtL]; omega)
  show (if reprOk _ = true then _ else _) = _
  rw [if_pos ok]
theorem raised_0 (x y : PyData) : (fs 19).law_raised [B.v (.int 0), B.v x, B.v y] = some (.tuple [.list [.bool true, .bool false, .bool false, .bool false, .bool false, .bool true, .bool false, .bool false, .bool false], .list [x]], []) := rfl
theorem rv_0 {x y : PyData} (hx : nice x = true ∧ x.depth ≤ 1 ∧ wt x ≤ 100) (hy : nice y = true ∧ y.depth ≤ 1 ∧ wt y ≤ 100) : oRepr [.list [x]] = some (.str (PyData.list [x]).shown) := repr_vals (i := 0) (by decide) hx hy
theorem raised_1 (x y : PyData) : (fs 19).law_raised [B.v (.int 1), B.v x, B.v y] = some (.tuple [.list [.bool false, .bool true, .bool false, .bool false, .bool false, .bool false, .bool true, .bool false, .bool false], .list [x]], []) := rfl
theorem rv_1 {x y : PyData} (hx : nice x = true ∧ x.depth ≤ 1 ∧ wt x ≤ 100) (hy : nice y = true ∧ y.depth ≤ 1 ∧ wt y ≤ 100) : oRepr [.list [x]] = some (.str (PyData.list [x]).shown) := repr_vals (i := 1) (by decide) hx hy
theorem raised_2 (x y : PyData) : (fs 19).law_raised [B.v (.int 2), B.v x, B.v y] = some (.tuple [.list [.bool false, .bool false, .bool true, .bool false, .bool false, .bool false, .bool false, .bool true, .bool false], .list [x, y]], []) := rfl
theorem rv_2 {x y : PyData} (hx : nice x = true ∧ x.depth ≤ 1 ∧ wt x ≤ 100) (hy : nice y = true ∧ y.depth ≤ 1 ∧ wt y ≤ 100) : oRepr [.list [x, y]] = some (.str (PyData.list [x, y]).shown) := repr_vals (i := 2) (by decide) hx hy
theorem raised_3 (x y : PyData) : (fs 19).law_raised [B.v (.int 3), B.v x, B.v y] = some (.tuple [.list [.bool false, .bool false, .bool false, .bool true, .bool false, .bool false, .bool false, .bool false, .bool true], .list [x]], []) := rfl
theorem rv_3 {x y : PyData} (hx : nice x = true ∧ x.depth ≤ 1 ∧ wt x ≤ 100) (hy : nice y = true ∧ y.depth ≤ 1 ∧ wt y ≤ 100) : oRepr [.list [x]] = some (.str (PyData.list [x]).shown) := repr_vals (i := 3) (by decide) hx hy
theorem raised_4 (x y : PyData) : (fs 19).law_raised [B.v (.int 4), B.v x, B.v y] = some (.tuple [.list [.bool false, .bool false, .bool false, .bool false, .bool true, .bool true, .bool false, .bool false, .bool false], .list []], []) := rfl
theorem rv_4 {x y : PyData} (hx : nice x = true ∧ x.depth ≤ 1 ∧ wt x ≤ 100) (hy : nice y = true ∧ y.depth ≤ 1 ∧ wt y ≤ 100) : oRepr [.list []] = some (.str (PyData.list []).shown) := repr_vals (i := 4) (by decide) hx hy
theorem nb_0 : oNe (.list [.bool true, .bool false, .bool false, .bool false, .bool false, .bool true, .bool false, .bool false, .bool false]) (.list [.bool true, .bool false, .bool false, .bool false, .bool false, .bool true, .bool false, .bool false, .bool false]) = some (.bool false) := by first | rfl | kernel_rfl
theorem nb_1 : oNe (.list [.bool false, .bool true, .bool false, .bool false, .bool false, .bool false, .bool true, .bool false, .bool false]) (.list [.bool false, .bool true, .bool false, .bool false, .bool false, .bool false, .bool true, .bool false, .bool false]) = some (.bool false) := by first | rfl | kernel_rfl
theorem nb_2 : oNe (.list [.bool false, .bool false, .bool true, .bool false, .bool false, .bool false, .bool false, .bool true, .bool false]) (.list [.bool false, .bool false, .bool true, .bool false, .bool false, .bool false, .bool false, .bool true, .bool false]) = some (.bool false) := by first | rfl | kernel_rfl
theorem nb_3 : oNe (.list [.bool false, .bool false, .bool false, .bool true, .bool false, .bool false, .bool false, .bool false, .bool true]) (.list [.bool false, .bool false, .bool false, .bool true, .bool false, .bool false, .bool false, .bool false, .bool true]) = some (.bool false) := by first | rfl | kernel_rfl
theorem nb_4 : oNe (.list [.bool false, .bool false, .bool false, .bool false, .bool true, .bool true, .bool false, .bool false, .bool false]) (.list [.bool false, .bool false, .bool false, .bool false, .bool true, .bool true, .bool false, .bool false, .bool false]) = some (.bool false) := by first | rfl | kernel_rfl
theorem law_true (ns : List Int) (hns : ns.length ≤ 63) : ∃ E', (fs 20).law [B.v (.list (ns.map .int))] = some (.bool true, E') := by
  suffices h : wc (fs 20).law [B.v (.list (ns.map .int))] fun d _ => d = .bool true by
    obtain ⟨⟨d, E'⟩, h1, h2⟩ := h
    exact ⟨E', by rw [h1]; exact congrArg some (Prod.ext h2 rfl)⟩
  show wc (bodyFn [] 12 (b_law (fs 19))) _ _
  unfold b_law
  simp only [↓kW, kP, String.reduceEq, Nat.reduceAdd, Nat.reduceSub, Nat.reduceMul, Nat.reducePow, Nat.reduceLT, Nat.reduceLeDiff, Nat.reduceEqDiff, Int.reduceAdd, Int.reduceSub, Int.reduceMul, Int.reduceNeg, Int.reducePow, Int.reduceLT, Int.reduceLE, Int.reduceEq, Int.reduceAbs, Int.reduceToNat, reduceCtorEq, List.length_map]
  refine ws_for (fun _ E => ∃ a1 a2 a3 a4 a5 a6 a7 a8 a9 a10 a11, E = [B.v (.list (ns.map .int)), a1, a2, a3, a4, a5, a6, a7, a8, a9, a10, a11, B.u]) ?_
  simp only [↓kW, kP, String.reduceEq, Nat.reduceAdd, Nat.reduceSub, Nat.reduceMul, Nat.reducePow, Nat.reduceLT, Nat.reduceLeDiff, Nat.reduceEqDiff, Int.reduceAdd, Int.reduceSub, Int.reduceMul, Int.reduceNeg, Int.reducePow, Int.reduceLT, Int.reduceLE, Int.reduceEq, Int.reduceAbs, Int.reduceToNat, reduceCtorEq, List.length_map]
  obtain ⟨r, hr, er⟩ := cells2 ns.length
  simp only [↓kW, kP, String.reduceEq, Nat.reduceAdd, Nat.reduceSub, Nat.reduceMul, Nat.reducePow, Nat.reduceLT, Nat.reduceLeDiff, Nat.reduceEqDiff, Int.reduceAdd, Int.reduceSub, Int.reduceMul, Int.reduceNeg, Int.reducePow, Int.reduceLT, Int.reduceLE, Int.reduceEq, Int.reduceAbs, Int.reduceToNat, reduceCtorEq, er]
  refine ⟨⟨_, _, _, _, _, _, _, _, _, _, _, rfl⟩, ?_, ?_⟩
  · rintro d hd _ E ⟨a1, a2, a3, a4, a5, a6, a7, a8, a9, a10, a11, rfl⟩
    obtain ⟨i, hi, rfl⟩ := mem_rng hd
    refine ⟨_, rfl, ?_⟩
    simp only [↓kW, kP, String.reduceEq, Nat.reduceAdd, Nat.reduceSub, Nat.reduceMul, Nat.reducePow, Nat.reduceLT, Nat.reduceLeDiff, Nat.reduceEqDiff, Int.reduceAdd, Int.reduceSub, Int.reduceMul, Int.reduceNeg, Int.reducePow, Int.reduceLT, Int.reduceLE, Int.reduceEq, Int.reduceAbs, Int.reduceToNat, reduceCtorEq]
    refine hand_r (ns := ns) (i := i) (by omega) (by omega) fun m hm => ?_
    simp only [↓kW, kP, String.reduceEq, Nat.reduceAdd, Nat.reduceSub, Nat.reduceMul, Nat.reducePow, Nat.reduceLT, Nat.reduceLeDiff, Nat.reduceEqDiff, Int.reduceAdd, Int.reduceSub, Int.reduceMul, Int.reduceNeg, Int.reducePow, Int.reduceLT, Int.reduceLE, Int.reduceEq, Int.reduceAbs, Int.reduceToNat, reduceCtorEq]
    refine ws_for (fun j E => ∃ m a3 a4 a5 a6 a7 a8 a9 a10 a11, E = [B.v (.list (ns.map .int)), B.v (.int i), B.o m, a3, a4, a5, a6, a7, a8, a9, a10, a11, B.u] ∧ Hd (j * 3 + 10) m) ?_
    simp only [↓kW, kP, String.reduceEq, Nat.reduceAdd, Nat.reduceSub, Nat.reduceMul, Nat.reducePow, Nat.reduceLT, Nat.reduceLeDiff, Nat.reduceEqDiff, Int.reduceAdd, Int.reduceSub, Int.reduceMul, Int.reduceNeg, Int.reducePow, Int.reduceLT, Int.reduceLE, Int.reduceEq, Int.reduceAbs, Int.reduceToNat, reduceCtorEq, show itR 0 6 = some (rngD 0 6) from rfl]
    refine ⟨⟨_, _, _, _, _, _, _, _, _, _, rfl, hm.less (by rw [len_rng']; decide)⟩, ?_, ?_⟩
    · rintro d hd j E ⟨m, a3, a4, a5, a6, a7, a8, a9, a10, a11, rfl, hm⟩
      obtain ⟨q, hq, rfl⟩ := mem_rng hd
      refine ⟨_, rfl, ?_⟩
      simp only [↓kW, kP, String.reduceEq, Nat.reduceAdd, Nat.reduceSub, Nat.reduceMul, Nat.reducePow, Nat.reduceLT, Nat.reduceLeDiff, Nat.reduceEqDiff, Int.reduceAdd, Int.reduceSub, Int.reduceMul, Int.reduceNeg, Int.reducePow, Int.reduceLT, Int.reduceLE, Int.reduceEq, Int.reduceAbs, Int.reduceToNat, reduceCtorEq]
      refine take_r (k := j * 3 + 12) (by omega) (hm.less (by omega)) (by omega) (by omega) fun t m2 t0 t1 h2 => ?_
      simp only [↓kW, kP, String.reduceEq, Nat.reduceAdd, Nat.reduceSub, Nat.reduceMul, Nat.reducePow, Nat.reduceLT, Nat.reduceLeDiff, Nat.reduceEqDiff, Int.reduceAdd, Int.reduceSub, Int.reduceMul, Int.reduceNeg, Int.reducePow, Int.reduceLT, Int.reduceLE, Int.reduceEq, Int.reduceAbs, Int.reduceToNat, reduceCtorEq]
      refine of_r (k := j * 3 + 11) (xs := some9 t) (by omega) (h2.less (by omega)) (by show 0 < 10; decide) (by show 10 < _; decide) fun x m3 hx h3 => ?_
      simp only [↓kW, kP, String.reduceEq, Nat.reduceAdd, Nat.reduceSub, Nat.reduceMul, Nat.reducePow, Nat.reduceLT, Nat.reduceLeDiff, Nat.reduceEqDiff, Int.reduceAdd, Int.reduceSub, Int.reduceMul, Int.reduceNeg, Int.reducePow, Int.reduceLT, Int.reduceLE, Int.reduceEq, Int.reduceAbs, Int.reduceToNat, reduceCtorEq]
      refine of_r (k := j * 3 + 10) (xs := some9 t) (by omega) (h3.less (by omega)) (by show 0 < 10; decide) (by show 10 < _; decide) fun y m4 hy h4 => ?_
      have ox := some9_ok t0 t1 hx
      have oy := some9_ok t0 t1 hy
      simp only [↓kW, kP, String.reduceEq, Nat.reduceAdd, Nat.reduceSub, Nat.reduceMul, Nat.reducePow, Nat.reduceLT, Nat.reduceLeDiff, Nat.reduceEqDiff, Int.reduceAdd, Int.reduceSub, Int.reduceMul, Int.reduceNeg, Int.reducePow, Int.reduceLT, Int.reduceLE, Int.reduceEq, Int.reduceAbs, Int.reduceToNat, reduceCtorEq]
      refine ws_for (fun _ E => ∃ b7 b8 b9 b10 b11, E = [B.v (.list (ns.map .int)), B.v (.int i), B.o m4, B.v (.int q), B.v (.list (some9 t)), B.v x, B.v y, b7, b8, b9, b10, b11, B.u]) ?_
      simp only [↓kW, kP, String.reduceEq, Nat.reduceAdd, Nat.reduceSub, Nat.reduceMul, Nat.reducePow, Nat.reduceLT, Nat.reduceLeDiff, Nat.reduceEqDiff, Int.reduceAdd, Int.reduceSub, Int.reduceMul, Int.reduceNeg, Int.reducePow, Int.reduceLT, Int.reduceLE, Int.reduceEq, Int.reduceAbs, Int.reduceToNat, reduceCtorEq, show itR 0 5 = some (rngD 0 5) from rfl]
      refine ⟨⟨_, _, _, _, _, rfl⟩, ?_, ?_⟩
      · rintro d hd _ E ⟨b7, b8, b9, b10, b11, rfl⟩
        obtain ⟨n, hn, rfl⟩ := mem_rng hd
        refine ⟨_, rfl, ?_⟩
        match n, hn with
        | 0, hn =>
          simp only [↓kC, kC2, ↓kW2, kP2, ↓kW, kP, String.reduceEq, Nat.reduceAdd, Nat.reduceSub, Nat.reduceMul, Nat.reducePow, Nat.reduceLT, Nat.reduceLeDiff, Nat.reduceEqDiff, Int.reduceAdd, Int.reduceSub, Int.reduceMul, Int.reduceNeg, Int.reducePow, Int.reduceLT, Int.reduceLE, Int.reduceEq, Int.reduceAbs, Int.reduceToNat, reduceCtorEq, wc_eq (raised_0 x y), rv_0 ox oy, nb_0, show itR 0 5 = some [PyData.int 0, .int 1, .int 2, .int 3, .int 4] from rfl]
          exact ⟨_, _, _, _, _, rfl⟩
        | 1, hn =>
          simp only [↓kC, kC2, ↓kW2, kP2, ↓kW, kP, String.reduceEq, Nat.reduceAdd, Nat.reduceSub, Nat.reduceMul, Nat.reducePow, Nat.reduceLT, Nat.reduceLeDiff, Nat.reduceEqDiff, Int.reduceAdd, Int.reduceSub, Int.reduceMul, Int.reduceNeg, Int.reducePow, Int.reduceLT, Int.reduceLE, Int.reduceEq, Int.reduceAbs, Int.reduceToNat, reduceCtorEq, wc_eq (raised_1 x y), rv_1 ox oy, nb_1, show itR 0 5 = some [PyData.int 0, .int 1, .int 2, .int 3, .int 4] from rfl]
          exact ⟨_, _, _, _, _, rfl⟩
        | 2, hn =>
          simp only [↓kC, kC2, ↓kW2, kP2, ↓kW, kP, String.reduceEq, Nat.reduceAdd, Nat.reduceSub, Nat.reduceMul, Nat.reducePow, Nat.reduceLT, Nat.reduceLeDiff, Nat.reduceEqDiff, Int.reduceAdd, Int.reduceSub, Int.reduceMul, Int.reduceNeg, Int.reducePow, Int.reduceLT, Int.reduceLE, Int.reduceEq, Int.reduceAbs, Int.reduceToNat, reduceCtorEq, wc_eq (raised_2 x y), rv_2 ox oy, nb_2, show itR 0 5 = some [PyData.int 0, .int 1, .int 2, .int 3, .int 4] from rfl]
          exact ⟨_, _, _, _, _, rfl⟩
        | 3, hn =>
          simp only [↓kC, kC2, ↓kW2, kP2, ↓kW, kP, String.reduceEq, Nat.reduceAdd, Nat.reduceSub, Nat.reduceMul, Nat.reducePow, Nat.reduceLT, Nat.reduceLeDiff, Nat.reduceEqDiff, Int.reduceAdd, Int.reduceSub, Int.reduceMul, Int.reduceNeg, Int.reducePow, Int.reduceLT, Int.reduceLE, Int.reduceEq, Int.reduceAbs, Int.reduceToNat, reduceCtorEq, wc_eq (raised_3 x y), rv_3 ox oy, nb_3, show itR 0 5 = some [PyData.int 0, .int 1, .int 2, .int 3, .int 4] from rfl]
          exact ⟨_, _, _, _, _, rfl⟩
        | 4, hn =>
          simp only [↓kC, kC2, ↓kW2, kP2, ↓kW, kP, String.reduceEq, Nat.reduceAdd, Nat.reduceSub, Nat.reduceMul, Nat.reducePow, Nat.reduceLT, Nat.reduceLeDiff, Nat.reduceEqDiff, Int.reduceAdd, Int.reduceSub, Int.reduceMul, Int.reduceNeg, Int.reducePow, Int.reduceLT, Int.reduceLE, Int.reduceEq, Int.reduceAbs, Int.reduceToNat, reduceCtorEq, wc_eq (raised_4 x y), rv_4 ox oy, nb_4, show itR 0 5 = some [PyData.int 0, .int 1, .int 2, .int 3, .int 4] from rfl]
          exact ⟨_, _, _, _, _, rfl⟩
      · rintro E ⟨b7, b8, b9, b10, b11, rfl⟩
        exact ⟨_, _, _, _, _, _, _, _, _, _, rfl, h4⟩
    · rintro E ⟨m, a3, a4, a5, a6, a7, a8, a9, a10, a11, rfl, hm⟩
      exact ⟨_, _, _, _, _, _, _, _, _, _, _, rfl⟩
  · rintro E ⟨a1, a2, a3, a4, a5, a6, a7, a8, a9, a10, a11, rfl⟩
    simp only [↓kW, kP, String.reduceEq, Nat.reduceAdd, Nat.reduceSub, Nat.reduceMul, Nat.reducePow, Nat.reduceLT, Nat.reduceLeDiff, Nat.reduceEqDiff, Int.reduceAdd, Int.reduceSub, Int.reduceMul, Int.reduceNeg, Int.reducePow, Int.reduceLT, Int.reduceLE, Int.reduceEq, Int.reduceAbs, Int.reduceToNat, reduceCtorEq]

end DL
open PySem PySem.W PySem.Calls PyProof.Rows
set_option maxHeartbeats 16000000 in
theorem PySem.Challenge.cw_ownedtongue_k09_refusals_made_by_hand_holds : PySem.Challenge.rw_ownedtongue_k09_refusals_made_by_hand.Holds := by
  w_on; o_law
  refine HandSHeadRun.head_any (r := OpenLaw.row PySem.Challenge.rw_ownedtongue_k09_refusals_made_by_hand) (q := view (OpenLaw.row PySem.Challenge.rw_ownedtongue_k09_refusals_made_by_hand).prog [12]) (H := DL.hk) (ob := DL.ob) (M := 4000) (loose := DL.loose) (d := HandSHeadRun.topDef (OpenLaw.row PySem.Challenge.rw_ownedtongue_k09_refusals_made_by_hand).prog 12) (kwd := []) DL.ob_eq
    (by kernel_rfl) (fun s => by kernel_rfl) DL.run (by kernel_rfl) (by kernel_rfl) (by kernel_rfl) (by rfl) (by first | assumption | decide +kernel) (by decide +kernel) ⟨rfl, rfl, rfl, rfl, rfl, by decide +kernel⟩ ?hw ?hc
  case hw => w_witness2
  case hc =>
    refine DL.walk_ofG (l := PySem.Challenge.rw_ownedtongue_k09_refusals_made_by_hand) (n := 63) (k := 20) (x := ("_law_script" : Str)) rfl (by decide) (by kernel_rfl) (by kernel_rfl) ⟨rfl, by decide, by decide⟩ ?F
    intro w mg fa h Y G hmg0
    obtain ⟨K, KX, c⟩ := Y
    have hmg : mg ("law" : PySem.Str) = some (.ref fa) := by
      have e : (HandSHeadRun.topDef (OpenLaw.row PySem.Challenge.rw_ownedtongue_k09_refusals_made_by_hand).prog 12).name = ("law" : PySem.Str) := by kernel_rfl
      rw [← e]
      exact hmg0
    obtain ⟨fds, T⟩ := DL.tp_of KX G c
    have e := hmg.symm.trans T.m_law
    cases e
    have b := L2.FunD.bindsA (ps := [("_law_script" : Str)]) T.f_law fun _ _ _ _ _ _ us hl => match us, hl with | [_], _ => rfl
    refine ⟨K, fds 5, DL.spF K 1 [] (DL.fs 20).law, KX, fun s v => b s [v] rfl, fun H a ns hl _ hS => ?_, fun base _ _ hB => (DL.all_ok T hB 20).law⟩
    obtain ⟨E', he⟩ := DL.law_true ns hl
    exact DL.sp_script (DL.noLst_ok c) (Nat.le_trans hl (by decide)) hS he

