import PyProof.Rows.All
import Wide.All
import OpenK.AllK
import Wide.FinOn
import HandS.ForMost
import HandS.Zip
import HandS.TupAny
import HandS.IsInst
import HandS.Style
import HandS.Walk
import HandS.Defaults
import HandS.Exc
import HandS.WordsExc
import HandS.HeadEnd
import HandS.Head0
import HandS.Head1
import HandS.Head2
import HandS.HeadHook1
import HandS.HeadHook2
import HandS.HeadHook3
import HandS.HeadHook4
import HandS.Wide
import HandS.Flow
import PySem.Challenge.RW_ownedtongue_k03_statements_of_anything
set_option Elab.async false
set_option linter.all false
set_option maxRecDepth 100000
namespace DL
open PySem PySem.Spec PyProof.Rows L2

abbrev D := PyData
abbrev hno : Hp := fun _ => none

/-! ### what stands for a thing, apart from what may change (A) -/
def TupA (K : PySem.W.Frag) (H : Hp) (A : Addr → Prop) (a : Addr) (vs : List V) : Prop := (¬ A a ∧ Rd H a (.tup vs)) ∨ SqT K hno a vs
def LstA (K : PySem.W.Frag) (H : Hp) (A : Addr → Prop) (a : Addr) (vs : List V) : Prop := ¬ A a ∧ Rd H a (.lst vs)
mutual
def RepD (K : PySem.W.Frag) (H : Hp) (A : Addr → Prop) : PyData → V → Prop
  | .none, v => v = .non
  | .bool b, v => v = .bl b
  | .int i, v => v = .int i
  | .str x, v => v = .str x ∧ x.length ≤ sizeLine
  | .tuple xs, v => ∃ a vs, v = .ref a ∧ TupA K H A a vs ∧ vs.length ≤ sizeLine ∧ RepL K H A xs vs
  | .list xs, v => ∃ a vs, v = .ref a ∧ LstA K H A a vs ∧ vs.length ≤ sizeLine ∧ RepL K H A xs vs
  | .dict kvs, v => ∃ a, v = .ref a ∧ kvs = [] ∧ ¬ A a ∧ H a = some (.dK [])
def RepL (K : PySem.W.Frag) (H : Hp) (A : Addr → Prop) : List PyData → List V → Prop
  | [], vs => vs = []
  | d :: ds, vs => ∃ v r, vs = v :: r ∧ RepD K H A d v ∧ RepL K H A ds r
end

/-- nothing that was tracked changes, but at W -/
structure Frm (W : Addr → Prop) (H H' : Hp) : Prop where
  eq : ∀ a o, H a = some o → ¬ W a → H' a = some o
  on : ∀ a, H a ≠ none → H' a ≠ none
theorem Frm.refl {W : Addr → Prop} {H : Hp} : Frm W H H := ⟨fun _ _ h _ => h, fun _ h => h⟩
theorem Frm.trans {W W' : Addr → Prop} {H H1 H2 : Hp} (a : Frm W H H1) (b : Frm W' H1 H2) (hw : ∀ x, W' x → W x ∨ H x = none) : Frm W H H2 :=
  ⟨fun x o h n => b.eq x o (a.eq x o h n) fun z => (hw x z).elim n (fun q => by rw [q] at h; cases h), fun x h => b.on x (a.on x h)⟩
theorem Frm.trans' {W : Addr → Prop} {H H1 H2 : Hp} (a : Frm W H H1) (b : Frm W H1 H2) : Frm W H H2 := a.trans b fun _ z => .inl z
abbrev F0 : Addr → Prop := fun _ => False
theorem Frm.of0 {W : Addr → Prop} {H H' : Hp} (a : Frm F0 H H') : Frm W H H' := ⟨fun x o h _ => a.eq x o h id, a.on⟩
theorem upd_on {H : Hp} {p a : Addr} {o : HO} (e : H a ≠ none) : upd H p o a ≠ none := by
  by_cases q : a = p
  · subst q; rw [upd_same]; exact fun z => nomatch z
  · rw [upd_ne q]; exact e
theorem Frm.new {H : Hp} {p : Addr} {o : HO} (h : H p = none) : Frm F0 H (upd H p o) :=
  ⟨fun _ _ e _ => (upd_ne (ne_of_none e h)).trans e, fun _ e => upd_on e⟩
theorem Frm.put {W : Addr → Prop} {H : Hp} {p : Addr} {o : HO} (h : W p) : Frm W H (upd H p o) :=
  ⟨fun a _ e n => (upd_ne (show a ≠ p from fun z => n (by rw [z]; exact h))).trans e, fun _ e => upd_on e⟩

section
variable {K : PySem.W.Frag} {H H' : Hp} {A A' W : Addr → Prop} {a : Addr} {vs : List V}
theorem sqT_no (h : SqT K hno a vs) : SqT K H a vs := by
  rcases h with (h | ⟨o, h⟩) | h
  · cases h
  · cases h
  · exact .inr h
theorem sqL_no (h : SqL K hno a vs) : SqL K H a vs := by
  rcases h with (h | ⟨o, h⟩) | h
  · cases h
  · cases h
  · exact .inr h
theorem TupA.sq (h : TupA K H A a vs) : SqT K H a vs := h.elim (fun z => .inl z.2) sqT_no
theorem LstA.sq (h : LstA K H A a vs) : SqL K H a vs := .inl h.2
theorem rd_on {u : HO} (h : Rd H a u) : H a ≠ none := by
  rcases h with h | ⟨o, h⟩ <;> rw [h] <;> exact fun z => nomatch z
theorem rd_ext {u : HO} (f : Frm W H H') (hw : ¬ W a) (h : Rd H a u) : Rd H' a u := by
  rcases h with h | ⟨o, h⟩
  · exact .inl (f.eq a _ h hw)
  · exact .inr ⟨o, f.eq a _ h hw⟩
/-- how what stands for a thing goes on: the heap changes at W alone, what may change grows by new ones -/
structure Go (H : Hp) (A : Addr → Prop) (H' : Hp) (A' : Addr → Prop) : Prop where
  eq : ∀ a o, H a = some o → ¬ A a → H' a = some o
  ga : ∀ a, A' a → A a ∨ H a = none
theorem Go.rd {u : HO} (g : Go H A H' A') (hn : ¬ A a) (h : Rd H a u) : ¬ A' a ∧ Rd H' a u := by
  refine ⟨fun z => (g.ga a z).elim hn (rd_on h), ?_⟩
  rcases h with h | ⟨o, h⟩
  · exact .inl (g.eq a _ h hn)
  · exact .inr ⟨o, g.eq a _ h hn⟩
theorem Go.tup (g : Go H A H' A') (h : TupA K H A a vs) : TupA K H' A' a vs := by
  rcases h with ⟨n, h⟩ | h
  · exact .inl (g.rd n h)
  · exact .inr h
theorem Go.lst (g : Go H A H' A') (h : LstA K H A a vs) : LstA K H' A' a vs := g.rd h.1 h.2
mutual
theorem Go.rep (g : Go H A H' A') : ∀ (d : PyData) (v : V), RepD K H A d v → RepD K H' A' d v
  | .none, v, h => h
  | .bool _, v, h => h
  | .int _, v, h => h
  | .str _, v, h => h
  | .tuple xs, v, h => by
    unfold RepD at h ⊢
    obtain ⟨a, vs, e, t, z, r⟩ := h
    exact ⟨a, vs, e, g.tup t, z, Go.repL g xs vs r⟩
  | .list xs, v, h => by
    unfold RepD at h ⊢
    obtain ⟨a, vs, e, t, z, r⟩ := h
    exact ⟨a, vs, e, g.lst t, z, Go.repL g xs vs r⟩
  | .dict kvs, v, h => by
    unfold RepD at h ⊢
    obtain ⟨a, e, z, n, q⟩ := h
    exact ⟨a, e, z, fun q' => (g.ga a q').elim n (by rw [q]; exact fun z => nomatch z), g.eq a _ q n⟩
theorem Go.repL (g : Go H A H' A') : ∀ (ds : List PyData) (vs : List V), RepL K H A ds vs → RepL K H' A' ds vs
  | [], vs, h => h
  | d :: ds, vs, h => by
    unfold RepL at h ⊢
    obtain ⟨v, r, e, h1, h2⟩ := h
    exact ⟨v, r, e, Go.rep g d v h1, Go.repL g ds r h2⟩
end
theorem Go.refl : Go H A H A := ⟨fun _ _ h _ => h, fun _ h => .inl h⟩
theorem Go.less (h : ∀ a, A' a → A a) : Go H A H A' := ⟨fun _ _ h _ => h, fun a z => .inl (h a z)⟩
theorem Go.frm (f : Frm W H H') (hw : ∀ a, W a → A a) : Go H A H' A := ⟨fun a o e n => f.eq a o e fun z => n (hw a z), fun _ z => .inl z⟩
theorem Go.frm0 (f : Frm F0 H H') : Go H A H' A := Go.frm f fun _ z => z.elim

/-! ### lists of them -/
theorem RepL.length : ∀ {ds : List PyData} {vs : List V}, RepL K H A ds vs → vs.length = ds.length
  | [], vs, h => by unfold RepL at h; subst h; rfl
  | d :: ds, vs, h => by
    unfold RepL at h
    obtain ⟨v, r, e, _, h2⟩ := h
    rw [e, List.length_cons, List.length_cons, RepL.length h2]
theorem repL_nil : RepL K H A [] [] := by unfold RepL; rfl
theorem repL_cons {d : PyData} {v : V} {ds : List PyData} (h : RepD K H A d v) (hs : RepL K H A ds vs) : RepL K H A (d :: ds) (v :: vs) := by
  unfold RepL
  exact ⟨v, vs, rfl, h, hs⟩
theorem RepL.cons_inv {d : PyData} {v : V} {ds : List PyData} {r : List V} (h : RepL K H A (d :: ds) (v :: r)) : RepD K H A d v ∧ RepL K H A ds r := by
  unfold RepL at h
  obtain ⟨v', r', e, h1, h2⟩ := h
  cases e
  exact ⟨h1, h2⟩
theorem RepL.get : ∀ {ds : List PyData} {vs : List V} {i : Nat} {d : PyData}, RepL K H A ds vs → ds[i]? = some d → ∃ v, vs[i]? = some v ∧ RepD K H A d v
  | [], _, _, _, _, e => by simp at e
  | d :: ds, vs, i, x, h, e => by
    unfold RepL at h
    obtain ⟨v, r, q, h1, h2⟩ := h
    subst q
    cases i with
    | zero => simp at e; subst e; exact ⟨v, rfl, h1⟩
    | succ i => simpa using RepL.get (i := i) h2 (by simpa using e)
theorem RepL.get' : ∀ {ds : List PyData} {vs : List V} {i : Nat} {v : V}, RepL K H A ds vs → vs[i]? = some v → ∃ d, ds[i]? = some d ∧ RepD K H A d v
  | [], vs, _, _, h, e => by unfold RepL at h; subst h; simp at e
  | d :: ds, vs, i, x, h, e => by
    unfold RepL at h
    obtain ⟨v, r, q, h1, h2⟩ := h
    subst q
    cases i with
    | zero => simp at e; subst e; exact ⟨d, rfl, h1⟩
    | succ i => simpa using RepL.get' (i := i) h2 (by simpa using e)
theorem RepL.append : ∀ {ds : List PyData} {vs : List V} {es : List PyData} {ws : List V}, RepL K H A ds vs → RepL K H A es ws → RepL K H A (ds ++ es) (vs ++ ws)
  | [], vs, _, _, h, h' => by unfold RepL at h; subst h; exact h'
  | d :: ds, vs, es, ws, h, h' => by
    unfold RepL at h
    obtain ⟨v, r, q, h1, h2⟩ := h
    subst q
    exact repL_cons h1 (RepL.append h2 h')
theorem RepL.set : ∀ {ds : List PyData} {vs : List V} (i : Nat) {d : PyData} {v : V}, RepD K H A d v → RepL K H A ds vs → RepL K H A (ds.set i d) (vs.set i v)
  | [], vs, _, _, _, _, h => by unfold RepL at h; subst h; exact repL_nil
  | d :: ds, vs, i, x, y, hx, h => by
    unfold RepL at h
    obtain ⟨v, r, q, h1, h2⟩ := h
    subst q
    cases i with
    | zero => exact repL_cons hx h2
    | succ i => exact repL_cons h1 (RepL.set i hx h2)
theorem RepL.take : ∀ {ds : List PyData} {vs : List V} (i : Nat), RepL K H A ds vs → RepL K H A (ds.take i) (vs.take i)
  | [], vs, i, h => by unfold RepL at h; subst h; rw [List.take_nil, List.take_nil]; exact repL_nil
  | d :: ds, vs, i, h => by
    unfold RepL at h
    obtain ⟨v, r, q, h1, h2⟩ := h
    subst q
    cases i with
    | zero => exact repL_nil
    | succ i => exact repL_cons h1 (RepL.take i h2)
theorem RepL.drop : ∀ {ds : List PyData} {vs : List V} (i : Nat), RepL K H A ds vs → RepL K H A (ds.drop i) (vs.drop i)
  | [], vs, i, h => by unfold RepL at h; subst h; rw [List.drop_nil, List.drop_nil]; exact repL_nil
  | d :: ds, vs, i, h => by
    unfold RepL at h
    obtain ⟨v, r, q, h1, h2⟩ := h
    subst q
    cases i with
    | zero => exact repL_cons h1 h2
    | succ i => exact RepL.drop i h2
theorem RepL.eraseIdx : ∀ {ds : List PyData} {vs : List V} (i : Nat), RepL K H A ds vs → RepL K H A (ds.eraseIdx i) (vs.eraseIdx i)
  | [], vs, i, h => by unfold RepL at h; subst h; exact repL_nil
  | d :: ds, vs, i, h => by
    unfold RepL at h
    obtain ⟨v, r, q, h1, h2⟩ := h
    subst q
    cases i with
    | zero => exact h2
    | succ i => exact repL_cons h1 (RepL.eraseIdx i h2)
end

/-! ### a frame -/
inductive M where
  | lst (xs : List PyData)
inductive B where
  | u | v (d : PyData) | o (m : M)
abbrev Env' := List B
structure Gm where
  A : Addr → Prop
  W : Addr → Prop
  H : Hp
def ObjD (K : PySem.W.Frag) (H : Hp) (A : Addr → Prop) (a : Addr) : M → Prop
  | .lst xs => ∃ vs, H a = some (.lst vs) ∧ vs.length ≤ sizeLine ∧ RepL K H A xs vs
/-- the objects that the frame itself has made and may change -/
def Own (io : List Nat) (ad : Nat → Addr) (E : Env') (a : Addr) : Prop := ∃ (i : Nat) (m : M), i ∉ io ∧ E[i]? = some (B.o m) ∧ a = ad i
def Ao (Γ : Gm) (io : List Nat) (ad : Nat → Addr) (E : Env') (a : Addr) : Prop := Γ.A a ∨ Own io ad E a
def Wo (Γ : Gm) (io : List Nat) (ad : Nat → Addr) (E : Env') (a : Addr) : Prop := Γ.W a ∨ Own io ad E a
structure EOk (K : PySem.W.Frag) (Γ : Gm) (io : List Nat) (ad : Nat → Addr) (σ : L2.St) (H : Hp) (E : Env') : Prop where
  len : σ.length = E.length
  w : ∀ a, Γ.W a → Γ.A a
  oA : ∀ a, Γ.A a → H a ≠ none
  hk : ∀ a, Γ.H a ≠ none → H a ≠ none
  vl : ∀ (i : Nat) (d : PyData), E[i]? = some (B.v d) → ∃ v, σ[i]? = some (some v) ∧ RepD K H (Ao Γ io ad E) d v
  ob : ∀ (i : Nat) (m : M), E[i]? = some (B.o m) → σ[i]? = some (some (.ref (ad i))) ∧ ObjD K H (Ao Γ io ad E) (ad i) m
  obi : ∀ (i : Nat) (m : M), E[i]? = some (B.o m) → i ∈ io → Γ.W (ad i)
  obn : ∀ (i : Nat) (m : M), E[i]? = some (B.o m) → i ∉ io → Γ.H (ad i) = none ∧ ¬ Γ.A (ad i)
  inj : ∀ (i j : Nat) (m m' : M), E[i]? = some (B.o m) → E[j]? = some (B.o m') → ad i = ad j → i = j
/-- alike but for what own objects hold -/
def Sim (E E' : Env') : Prop := E'.length = E.length ∧ ∀ i : Nat, (∃ m m', E[i]? = some (B.o m) ∧ E'[i]? = some (B.o m')) ∨ ((∀ m, E[i]? ≠ some (B.o m)) ∧ E'[i]? = E[i]?)
theorem Sim.refl (E : Env') : Sim E E := by
  refine ⟨rfl, fun i => ?_⟩
  cases h : E[i]? with
  | none => exact .inr ⟨fun m z => (nomatch z), rfl⟩
  | some b => cases b with
    | o m => exact .inl ⟨m, m, rfl, rfl⟩
    | u => exact .inr ⟨fun m z => (nomatch z), rfl⟩
    | v d => exact .inr ⟨fun m z => (nomatch z), rfl⟩
theorem Sim.trans {E E1 E2 : Env'} (a : Sim E E1) (b : Sim E1 E2) : Sim E E2 := by
  refine ⟨b.1.trans a.1, fun i => ?_⟩
  rcases a.2 i with ⟨m, m', h1, h2⟩ | ⟨h1, h2⟩
  · rcases b.2 i with ⟨n, n', h3, h4⟩ | ⟨h3, h4⟩
    · exact .inl ⟨m, n', h1, h4⟩
    · exact absurd h2 (h3 m')
  · rcases b.2 i with ⟨n, n', h3, h4⟩ | ⟨h3, h4⟩
    · rw [h2] at h3; exact absurd h3 (h1 n)
    · exact .inr ⟨h1, h4.trans h2⟩
theorem Sim.own {E E' : Env'} (s : Sim E E') {i : Nat} : (∃ m, E'[i]? = some (B.o m)) ↔ ∃ m, E[i]? = some (B.o m) := by
  rcases s.2 i with ⟨m, m', h1, h2⟩ | ⟨h1, h2⟩
  · exact ⟨fun _ => ⟨m, h1⟩, fun _ => ⟨m', h2⟩⟩
  · rw [h2]
theorem Sim.Own {E E' : Env'} (s : Sim E E') {io : List Nat} {ad : Nat → Addr} : Own io ad E' = Own io ad E := by
  funext a
  refine propext ⟨fun ⟨i, m, h1, h2, h3⟩ => ?_, fun ⟨i, m, h1, h2, h3⟩ => ?_⟩
  · obtain ⟨m', q⟩ := s.own.mp ⟨m, h2⟩; exact ⟨i, m', h1, q, h3⟩
  · obtain ⟨m', q⟩ := s.own.mpr ⟨m, h2⟩; exact ⟨i, m', h1, q, h3⟩
theorem Sim.Ao {E E' : Env'} (s : Sim E E') {Γ : Gm} {io : List Nat} {ad : Nat → Addr} : Ao Γ io ad E' = Ao Γ io ad E := by
  funext a; unfold DL.Ao; rw [s.Own]
theorem Sim.Wo {E E' : Env'} (s : Sim E E') {Γ : Gm} {io : List Nat} {ad : Nat → Addr} : Wo Γ io ad E' = Wo Γ io ad E := by
  funext a; unfold DL.Wo; rw [s.Own]
section
variable {K : PySem.W.Frag} {Γ : Gm} {io : List Nat} {ad : Nat → Addr} {σ : L2.St} {H H' : Hp} {E E' : Env'} {W : Addr → Prop}
theorem EOk.wa (e : EOk K Γ io ad σ H E) : ∀ a, Wo Γ io ad E a → Ao Γ io ad E a := fun a h => h.elim (fun z => .inl (e.w a z)) .inr
theorem EOk.on (e : EOk K Γ io ad σ H E) : ∀ a, Ao Γ io ad E a → H a ≠ none := fun a h => by
  rcases h with h | ⟨i, m, h1, h2, rfl⟩
  · exact e.oA a h
  · obtain ⟨_, q⟩ := e.ob i m h2
    cases m with
    | lst xs => obtain ⟨vs, z, _⟩ := q; rw [z]; exact fun z => nomatch z
theorem EOk.wo (e : EOk K Γ io ad σ H E) {i : Nat} {m : M} (h : E[i]? = some (B.o m)) : Wo Γ io ad E (ad i) := by
  by_cases z : i ∈ io
  · exact .inl (e.obi i m h z)
  · exact .inr ⟨i, m, z, h, rfl⟩
/-- nothing but new things -/
theorem EOk.new (e : EOk K Γ io ad σ H E) (f : Frm F0 H H') : EOk K Γ io ad σ H' E where
  len := e.len
  w := e.w
  oA := fun a h => f.on a (e.oA a h)
  hk := fun a h => f.on a (e.hk a h)
  vl := fun i d h => let ⟨v, h1, h2⟩ := e.vl i d h; ⟨v, h1, (Go.frm0 f).rep d v h2⟩
  ob := fun i m h => by
    obtain ⟨h1, h2⟩ := e.ob i m h
    refine ⟨h1, ?_⟩
    cases m with
    | lst xs => obtain ⟨vs, z, z1, z2⟩ := h2; exact ⟨vs, f.eq _ _ z id, z1, (Go.frm0 f).repL xs vs z2⟩
  obi := e.obi
  obn := e.obn
  inj := e.inj
/-- less that may change -/
theorem EOk.less {Γ' : Gm} (e : EOk K Γ io ad σ H E) (hA : ∀ a, Γ'.A a → Γ.A a) (hW : Γ'.W = Γ.W) (hw : ∀ a, Γ'.W a → Γ'.A a) (hH : Γ'.H = Γ.H) : EOk K Γ' io ad σ H E where
  len := e.len
  w := hw
  oA := fun a h => e.oA a (hA a h)
  hk := fun a h => e.hk a (by rw [← hH]; exact h)
  vl := fun i d h => let ⟨v, h1, h2⟩ := e.vl i d h; ⟨v, h1, (Go.less (fun a z => z.elim (fun z => .inl (hA a z)) .inr)).rep d v h2⟩
  ob := fun i m h => by
    obtain ⟨h1, h2⟩ := e.ob i m h
    refine ⟨h1, ?_⟩
    cases m with
    | lst xs => obtain ⟨vs, z, z1, z2⟩ := h2; exact ⟨vs, z, z1, (Go.less (fun a z => z.elim (fun z => .inl (hA a z)) .inr)).repL xs vs z2⟩
  obi := fun i m h hi => by rw [hW]; exact e.obi i m h hi
  obn := fun i m h hi => ⟨by rw [hH]; exact (e.obn i m h hi).1, fun z => (e.obn i m h hi).2 (hA _ z)⟩
  inj := e.inj
/-- an own object is written -/
theorem EOk.put (e : EOk K Γ io ad σ H E) {i : Nat} {m : M} {xs : List PyData} {vs : List V} (h : E[i]? = some (B.o m)) (hz : vs.length ≤ sizeLine) (r : RepL K H (Ao Γ io ad E) xs vs) :
    EOk K Γ io ad σ (upd H (ad i) (.lst vs)) (E.set i (B.o (.lst xs))) ∧ Frm (Wo Γ io ad E) H (upd H (ad i) (.lst vs)) ∧ Sim E (E.set i (B.o (.lst xs))) := by
  have hi : i < E.length := (List.getElem?_eq_some_iff.mp h).1
  have hs : Sim E (E.set i (B.o (.lst xs))) := by
    refine ⟨List.length_set, fun j => ?_⟩
    by_cases q : i = j
    · subst q
      exact .inl ⟨m, _, h, List.getElem?_set_self hi⟩
    · rw [List.getElem?_set_ne q]
      exact (Sim.refl E).2 j
  have f : Frm (Wo Γ io ad E) H (upd H (ad i) (.lst vs)) := Frm.put (e.wo h)
  have hA : Ao Γ io ad (E.set i (B.o (.lst xs))) = Ao Γ io ad E := hs.Ao
  have g : Go H (Ao Γ io ad E) (upd H (ad i) (.lst vs)) (Ao Γ io ad E) := Go.frm f e.wa
  have back : ∀ (j : Nat) (m' : M), (E.set i (B.o (.lst xs)))[j]? = some (B.o m') → ∃ m2, E[j]? = some (B.o m2) := fun j m' z => hs.own.mp ⟨m', z⟩
  refine ⟨⟨by rw [List.length_set]; exact e.len, e.w, fun a h => f.on a (e.oA a h), fun a h => f.on a (e.hk a h), fun j d z => ?_, fun j m' z => ?_, fun j m' z hj => ?_, fun j m' z hj => ?_, fun j k m' m2 z1 z2 => ?_⟩, f, hs⟩
  · have q : i ≠ j := fun q => by
      subst q
      rw [List.getElem?_set_self hi] at z
      cases z
    rw [List.getElem?_set_ne q] at z
    obtain ⟨v, h1, h2⟩ := e.vl j d z
    exact ⟨v, h1, by rw [hA]; exact g.rep d v h2⟩
  · by_cases q : i = j
    · subst q
      rw [List.getElem?_set_self hi] at z
      cases z
      exact ⟨(e.ob i m h).1, vs, upd_same, hz, by rw [hA]; exact g.repL xs vs r⟩
    · rw [List.getElem?_set_ne q] at z
      obtain ⟨h1, h2⟩ := e.ob j m' z
      refine ⟨h1, ?_⟩
      have ne : ad j ≠ ad i := fun z' => q (e.inj i j m m' h z z'.symm)
      cases m' with
      | lst ys => obtain ⟨ws, z0, z1, z2⟩ := h2; exact ⟨ws, by rw [upd_ne ne]; exact z0, z1, by rw [hA]; exact g.repL ys ws z2⟩
  · obtain ⟨m2, z2⟩ := back j m' z; exact e.obi j m2 z2 hj
  · obtain ⟨m2, z2⟩ := back j m' z; exact e.obn j m2 z2 hj
  · obtain ⟨m3, z3⟩ := back j m' z1
    obtain ⟨m4, z4⟩ := back k m2 z2
    exact e.inj j k m3 m4 z3 z4
theorem Go.of_new (f : Frm F0 H H') {A : Addr → Prop} : Go H A H' A := Go.frm0 f
end
end DL

namespace DL
open PySem PySem.Spec PyProof.Rows L2

theorem _root_.L2.PE.imp {X : Cx} {e : Expr} {t t' : TE} (h : PE X e t) (k : ∀ σ H Q, t' σ H Q → t σ H Q) : PE X e t' := ⟨fun pins s σ H Q I w => h.run pins s σ H Q I (k σ H Q w)⟩
theorem _root_.L2.PT.imp {X : Cx} {e : Expr} {t t' : TT} (h : PT X e t) (k : ∀ σ H Q, t' σ H Q → t σ H Q) : PT X e t' := ⟨fun pins s σ H Q I w => h.run pins s σ H Q I (k σ H Q w)⟩
theorem _root_.L2.PW.imp {X : Cx} {e : Expr} {t t' : TT} (h : PW X e t) (k : ∀ σ H Q, t' σ H Q → t σ H Q) : PW X e t' := ⟨fun wh pins s σ H Q I w => h.run wh pins s σ H Q I (k σ H Q w)⟩
theorem _root_.L2.PA.imp {X : Cx} {es : List Expr} {t t' : TA} (h : PA X es t) (k : ∀ σ H Q, t' σ H Q → t σ H Q) : PA X es t' := ⟨fun pos pins s σ H Q I w => h.run pos pins s σ H Q I (k σ H Q w)⟩
theorem _root_.L2.PS.imp {X : Cx} {st : Stmt} {t t' : TS} (h : PS X st t) (k : ∀ D σ H, t' D σ H → t D σ H) : PS X st t' := ⟨fun pins s σ H D I w => h.run pins s σ H D I (k D σ H w)⟩
theorem _root_.L2.PSs.imp {X : Cx} {st : List Stmt} {t t' : TS} (h : PSs X st t) (k : ∀ D σ H, t' D σ H → t D σ H) : PSs X st t' := ⟨fun pins s σ H D I w => h.run pins s σ H D I (k D σ H w)⟩
theorem _root_.L2.PO.imp {X : Cx} {e : Option Expr} {t t' : TO} (h : PO X e t) (k : ∀ σ H Q, t' σ H Q → t σ H Q) : PO X e t' := ⟨fun pins s σ H Q I w => h.run pins s σ H Q I (k σ H Q w)⟩

/-! ### what is evaluated: α, over the frame -/
abbrev Ev (α : Type) := Env' → Option (α × Env')
abbrev Ef := Ev PyData
/-- a reading that comes to some α, which stands by R at the heap behind it -/
def rd {α ν : Type} (R : Gm → List Nat → (Nat → Addr) → Env' → PySem.W.Frag → Hp → (Addr → Prop) → α → ν → Prop) (K : PySem.W.Frag) (io : List Nat) (f : Ev α) : L2.St → Hp → (ν → Hp → Prop) → Prop := fun σ H Q =>
  ∃ Γ ad E d E', EOk K Γ io ad σ H E ∧ f E = some (d, E') ∧ ∀ v H', Frm (Wo Γ io ad E) H H' → EOk K Γ io ad σ H' E' → Sim E E' → R Γ io ad E' K H' (Ao Γ io ad E) d v → Q v H'
abbrev tD : PySem.W.Frag → List Nat → Ef → TE := rd fun _ _ _ _ K H A d v => RepD K H A d v
abbrev cD : PySem.W.Frag → List Nat → Ev Bool → TT := rd fun _ _ _ _ _ _ _ b c => b = c
/-- an argument: a thing, or an own object by its slot -/
inductive G where
  | v (d : PyData) | s (i : Nat)
def RepG (ad : Nat → Addr) (K : PySem.W.Frag) (H : Hp) (A : Addr → Prop) : List G → List V → Prop
  | [], vs => vs = []
  | .v d :: gs, vs => ∃ v r, vs = v :: r ∧ RepD K H A d v ∧ RepG ad K H A gs r
  | .s i :: gs, vs => ∃ r, vs = .ref (ad i) :: r ∧ RepG ad K H A gs r
abbrev aD : PySem.W.Frag → List Nat → Ev (List G) → TA := rd fun _ _ ad _ K H A gs vs => RepG ad K H A gs vs
abbrev oD : PySem.W.Frag → List Nat → Ev (Option Int) → TO := rd fun _ _ _ _ _ _ _ b c => b = c
theorem Go.repG {K : PySem.W.Frag} {H H' : Hp} {A A' : Addr → Prop} {ad : Nat → Addr} (g : Go H A H' A') : ∀ (gs : List G) (vs : List V), RepG ad K H A gs vs → RepG ad K H' A' gs vs
  | [], _, h => h
  | .v d :: gs, vs, h => by
    obtain ⟨v, r, e, h1, h2⟩ := h
    exact ⟨v, r, e, g.rep d v h1, Go.repG g gs r h2⟩
  | .s i :: gs, vs, h => by
    obtain ⟨r, e, h2⟩ := h
    exact ⟨r, e, Go.repG g gs r h2⟩

/-- one evaluated, then what follows -/
theorem rd_then {α ν β μ : Type} {R : Gm → List Nat → (Nat → Addr) → Env' → PySem.W.Frag → Hp → (Addr → Prop) → α → ν → Prop} {S : Gm → List Nat → (Nat → Addr) → Env' → PySem.W.Frag → Hp → (Addr → Prop) → β → μ → Prop}
    {K : PySem.W.Frag} {io : List Nat} {f : Ev α} {g : α → Ev β} {h : Ev β} (eh : ∀ E, h E = (f E).bind fun r => g r.1 r.2) {σ : L2.St} {H : Hp} {Q : μ → Hp → Prop} {Q1 : ν → Hp → Prop} (w : rd S K io h σ H Q)
    (k : ∀ Γ ad E x v H1 y E1 E2, f E = some (x, E1) → g x E1 = some (y, E2) → EOk K Γ io ad σ H1 E1 → Frm (Wo Γ io ad E) H H1 → Sim E E1 → R Γ io ad E1 K H1 (Ao Γ io ad E) x v →
      (∀ u H2, Frm (Wo Γ io ad E1) H1 H2 → EOk K Γ io ad σ H2 E2 → Sim E1 E2 → S Γ io ad E2 K H2 (Ao Γ io ad E1) y u → Q u H2) → Q1 v H1) : rd R K io f σ H Q1 := by
  obtain ⟨Γ, ad, E, d, E', ok, he, q⟩ := w
  rw [eh] at he
  obtain ⟨⟨x, E1⟩, h1, h2⟩ := Option.bind_eq_some_iff.mp he
  refine ⟨Γ, ad, E, x, E1, ok, h1, fun v H1 fr ok1 sim r => k Γ ad E x v H1 d E1 E' h1 h2 ok1 fr sim r fun u H2 fr2 ok2 sim2 r2 => ?_⟩
  rw [sim.Wo] at fr2
  rw [sim.Ao] at r2
  exact q u H2 (fr.trans' fr2) ok2 (sim.trans sim2) r2
section
variable {X : Cx} {io : List Nat} {a b : Expr} {fa fb : Ef} {pos : Pos}
/-! ### leaves -/
def fV (i : Nat) : Ef := fun E => match E[i]? with
  | some (B.v d) => some (d, E)
  | _ => none
theorem de_var {i : Nat} {x : Str} (h : PE X (.Name x pos) (tVar i)) : PE X (.Name x pos) (tD X.K io (fV i)) := h.imp fun σ H Q w => by
  obtain ⟨Γ, ad, E, d, E', ok, he, q⟩ := w
  unfold fV at he
  split at he
  · rename_i d' hd
    cases he
    obtain ⟨v, hv, hr⟩ := ok.vl i d hd
    exact ⟨v, hv, q v H Frm.refl ok (Sim.refl E) hr⟩
  · cases he
def fC (d : PyData) : Ef := fun E => some (d, E)
theorem de_c {e : Expr} {v : V} {d : PyData} (h : PE X e (tC v)) (r : ∀ H A, RepD X.K H A d v) : PE X e (tD X.K io (fC d)) := h.imp fun σ H Q w => by
  obtain ⟨Γ, ad, E, d', E', ok, he, q⟩ := w
  cases he
  exact q v H Frm.refl ok (Sim.refl E) (r H _)
theorem rep_non {K : PySem.W.Frag} {H : Hp} {A : Addr → Prop} : RepD K H A .none .non := by unfold RepD; rfl
theorem rep_bl {K : PySem.W.Frag} {H : Hp} {A : Addr → Prop} {b : Bool} : RepD K H A (.bool b) (.bl b) := by unfold RepD; rfl
theorem rep_int {K : PySem.W.Frag} {H : Hp} {A : Addr → Prop} {i : Int} : RepD K H A (.int i) (.int i) := by unfold RepD; rfl
theorem rep_str {K : PySem.W.Frag} {H : Hp} {A : Addr → Prop} {x : Str} (h : x.length ≤ sizeLine) : RepD K H A (.str x) (.str x) := by unfold RepD; exact ⟨rfl, h⟩
theorem de_int {i : Int} {j : Nat} : PE X (.Constant (.int i) j pos) (tD X.K io (fC (.int i))) := de_c pe_int fun _ _ => rep_int
theorem de_bl {i : Bool} {j : Nat} : PE X (.Constant (.bool i) j pos) (tD X.K io (fC (.bool i))) := de_c pe_bl fun _ _ => rep_bl
theorem de_non {j : Nat} : PE X (.Constant .none j pos) (tD X.K io (fC .none)) := de_c pe_non fun _ _ => rep_non
theorem de_str {x : Str} {j : Nat} (h : x.length ≤ sizeLine) : PE X (.Constant (.str x) j pos) (tD X.K io (fC (.str x))) := de_c pe_str fun _ _ => rep_str h

/-! ### one, two operands -/
def f1 {α β : Type} (g : α → Option β) (fa : Ev α) : Ev β := fun E => (fa E).bind fun r => (g r.1).map fun z => (z, r.2)
def f2 {α β γ : Type} (g : α → β → Option γ) (fa : Ev α) (fb : Ev β) : Ev γ := fun E => (fa E).bind fun r => (fb r.2).bind fun s => (g r.1 s.1).map fun z => (z, s.2)
/-- a thing that is read now; a list may be one that changes later -/
inductive RepS (K : PySem.W.Frag) (H : Hp) (A : Addr → Prop) : PyData → V → Prop where
  | d {x : PyData} {v : V} (h : RepD K H A x v) : RepS K H A x v
  | l {a : Addr} {xs : List PyData} {vs : List V} (h : Rd H a (.lst vs)) (z : vs.length ≤ sizeLine) (r : RepL K H A xs vs) : RepS K H A (.list xs) (.ref a)
/-- a rule by values, told by what it does to things -/
def RS (K : PySem.W.Frag) (r : R2) (g : PyData → PyData → Option PyData) : Prop := ∀ (H : Hp) (A : Addr → Prop) (x y z : PyData) (vx vy : V) (Q : VK), (∀ a, A a → H a ≠ none) → RepS K H A x vx → RepS K H A y vy → g x y = some z →
  (∀ v H', Frm F0 H H' → RepD K H' A z v → Q v H') → r vx vy H Q
def US (K : PySem.W.Frag) (r : V → Hp → VK → Prop) (g : PyData → Option PyData) : Prop := ∀ (H : Hp) (A : Addr → Prop) (x z : PyData) (vx : V) (Q : VK), (∀ a, A a → H a ≠ none) → RepS K H A x vx → g x = some z →
  (∀ v H', Frm F0 H H' → RepD K H' A z v → Q v H') → r vx H Q
theorem td2 {r : R2} {g : PyData → PyData → Option PyData} (hr : RS X.K r g) {σ : L2.St} {H : Hp} {Q : VK} (w : tD X.K io (f2 g fa fb) σ H Q) : tOp r (tD X.K io fa) (tD X.K io fb) σ H Q := by
  show tD X.K io fa σ H fun x H1 => tD X.K io fb σ H1 fun y H2 => r x y H2 Q
  refine rd_then (f := fa) (g := fun x E1 => (fb E1).bind fun s => (g x s.1).map fun z => (z, s.2)) (fun _ => rfl) w fun Γ ad E x vx H1 y E1 E2 h1 h2 ok1 fr1 sim1 r1 k => ?_
  obtain ⟨⟨y', E3⟩, h3, h4⟩ := Option.bind_eq_some_iff.mp h2
  refine ⟨Γ, ad, E1, y', E3, ok1, h3, fun vy H2 fr2 ok2 sim2 r2 => ?_⟩
  obtain ⟨z, hz, e⟩ := Option.map_eq_some_iff.mp h4
  cases e
  rw [sim1.Ao] at r2
  have r1' := (Go.frm fr2 ok1.wa).rep x vx (by rw [sim1.Ao]; exact r1)
  rw [sim1.Ao] at r1'
  refine hr H2 _ x y' y vx vy Q (fun a h => ok2.on a (by rw [sim2.Ao, sim1.Ao]; exact h)) (.d r1') (.d r2) hz fun v H3 fr3 r3 => ?_
  exact k v H3 (fr2.trans' fr3.of0) (ok2.new fr3) sim2 (by rw [sim1.Ao]; exact r3)
theorem de_bin {op : Operator} {r : R2} {g : PyData → PyData → Option PyData} (ho : OpR X (binaryOp op) r) (hr : RS X.K r g) (ha : PE X a (tD X.K io fa)) (hb : PE X b (tD X.K io fb)) :
    PE X (.BinOp a op b pos) (tD X.K io (f2 g fa fb)) := (pe_op ho ha hb).imp fun _ _ _ => td2 hr
theorem de_cmp {op : CmpOp} {r : R2} {g : PyData → PyData → Option PyData} (ho : OpR X (compareOp op) r) (hr : RS X.K r g) (ha : PE X a (tD X.K io fa)) (hb : PE X b (tD X.K io fb)) (hm : behindInMarks op b = false) :
    PE X (.Compare a [op] [b] pos) (tD X.K io (f2 g fa fb)) := (pe_cmpR ho ha hb hm).imp fun _ _ _ => td2 hr
theorem de_ix {r : R2} {g : PyData → PyData → Option PyData} (ho : IxR X r) (hr : RS X.K r g) (ha : PE X a (tD X.K io fa)) (hb : PE X b (tD X.K io fb)) (hs : PlainIx b) :
    PE X (.Subscript a b pos) (tD X.K io (f2 g fa fb)) := (pe_ix ho ha hb hs).imp fun _ _ _ => td2 hr
theorem td1 {r : V → Hp → VK → Prop} {g : PyData → Option PyData} (hr : US X.K r g) {σ : L2.St} {H : Hp} {Q : VK} (w : tD X.K io (f1 g fa) σ H Q) : tD X.K io fa σ H fun x H1 => r x H1 Q := by
  refine rd_then (f := fa) (g := fun x E1 => (g x).map fun z => (z, E1)) (fun _ => rfl) w fun Γ ad E x vx H1 y E1 E2 h1 h2 ok1 fr1 sim1 r1 k => ?_
  obtain ⟨z, hz, e⟩ := Option.map_eq_some_iff.mp h2
  cases e
  refine hr H1 _ x y vx Q (fun a h => ok1.on a (by rw [sim1.Ao]; exact h)) (.d r1) hz fun v H3 fr3 r3 => ?_
  exact k v H3 fr3.of0 (ok1.new fr3) (Sim.refl _) (by rw [sim1.Ao]; exact r3)
/-! ### an own list as an operand: read when the others are there -/
def ownL (i : Nat) (E : Env') : Option PyData := match E[i]? with
  | some (B.o (.lst xs)) => some (.list xs)
  | _ => none
theorem ownL_rep {K : PySem.W.Frag} {Γ : Gm} {ad : Nat → Addr} {σ : L2.St} {H : Hp} {E : Env'} (ok : EOk K Γ io ad σ H E) {i : Nat} {d : PyData} (h : ownL i E = some d) : σ[i]? = some (some (.ref (ad i))) ∧ RepS K H (Ao Γ io ad E) d (.ref (ad i)) := by
  unfold ownL at h
  split at h
  · rename_i xs hd
    cases h
    obtain ⟨h1, vs, h2, h3, h4⟩ := ok.ob i _ hd
    exact ⟨h1, .l (.inl h2) h3 h4⟩
  · cases h
def f1s {β : Type} (g : PyData → Option β) (i : Nat) : Ev β := fun E => (ownL i E).bind fun x => (g x).map fun z => (z, E)
def f2l {γ : Type} (g : PyData → PyData → Option γ) (i : Nat) (fb : Ef) : Ev γ := fun E => (ownL i E).bind fun _ => (fb E).bind fun s => (ownL i s.2).bind fun x => (g x s.1).map fun z => (z, s.2)
def f2r {γ : Type} (g : PyData → PyData → Option γ) (fa : Ef) (i : Nat) : Ev γ := fun E => (fa E).bind fun s => (ownL i s.2).bind fun y => (g s.1 y).map fun z => (z, s.2)
theorem td1s {r : V → Hp → VK → Prop} {g : PyData → Option PyData} {i : Nat} (hr : US X.K r g) {σ : L2.St} {H : Hp} {Q : VK} (w : tD X.K io (f1s g i) σ H Q) : tVar i σ H fun x H1 => r x H1 Q := by
  obtain ⟨Γ, ad, E, d, E', ok, he, q⟩ := w
  obtain ⟨x, h1, h2⟩ := Option.bind_eq_some_iff.mp he
  obtain ⟨z, hz, e⟩ := Option.map_eq_some_iff.mp h2
  cases e
  obtain ⟨e1, r1⟩ := ownL_rep ok h1
  exact ⟨_, e1, hr H _ x d _ Q ok.on r1 hz fun v H3 fr3 r3 => q v H3 fr3.of0 (ok.new fr3) (Sim.refl _) r3⟩
theorem td2l {r : R2} {g : PyData → PyData → Option PyData} {i : Nat} (hr : RS X.K r g) {σ : L2.St} {H : Hp} {Q : VK} (w : tD X.K io (f2l g i fb) σ H Q) : tOp r (tVar i) (tD X.K io fb) σ H Q := by
  obtain ⟨Γ, ad, E, d, E', ok, he, q⟩ := w
  obtain ⟨x0, h0, he⟩ := Option.bind_eq_some_iff.mp he
  obtain ⟨⟨y, E1⟩, h1, h2⟩ := Option.bind_eq_some_iff.mp he
  obtain ⟨x, h3, h4⟩ := Option.bind_eq_some_iff.mp h2
  obtain ⟨z, hz, e⟩ := Option.map_eq_some_iff.mp h4
  cases e
  refine ⟨_, (ownL_rep ok h0).1, Γ, ad, E, y, E1, ok, h1, fun vy H1 fr1 ok1 sim1 r1 => ?_⟩
  obtain ⟨_, r2⟩ := ownL_rep ok1 h3
  rw [sim1.Ao] at r2
  exact hr H1 _ x y d _ vy Q (fun a h => ok1.on a (by rw [sim1.Ao]; exact h)) r2 (.d r1) hz fun v H3 fr3 r3 => q v H3 (fr1.trans' fr3.of0) (ok1.new fr3) sim1 r3
theorem td2r {r : R2} {g : PyData → PyData → Option PyData} {i : Nat} (hr : RS X.K r g) {σ : L2.St} {H : Hp} {Q : VK} (w : tD X.K io (f2r g fa i) σ H Q) : tOp r (tD X.K io fa) (tVar i) σ H Q := by
  obtain ⟨Γ, ad, E, d, E', ok, he, q⟩ := w
  obtain ⟨⟨x, E1⟩, h1, h2⟩ := Option.bind_eq_some_iff.mp he
  obtain ⟨y, h3, h4⟩ := Option.bind_eq_some_iff.mp h2
  obtain ⟨z, hz, e⟩ := Option.map_eq_some_iff.mp h4
  cases e
  refine ⟨Γ, ad, E, x, E1, ok, h1, fun vx H1 fr1 ok1 sim1 r1 => ?_⟩
  obtain ⟨e2, r2⟩ := ownL_rep ok1 h3
  rw [sim1.Ao] at r2
  exact ⟨_, e2, hr H1 _ x y d vx _ Q (fun a h => ok1.on a (by rw [sim1.Ao]; exact h)) (.d r1) r2 hz fun v H3 fr3 r3 => q v H3 (fr1.trans' fr3.of0) (ok1.new fr3) sim1 r3⟩

/-! ### arguments of built-in functions -/
abbrev Af := Ev (List G)
def aNil : Af := fun E => some ([], E)
def aV (fe : Ef) (fr : Af) : Af := fun E => (fe E).bind fun r => (fr r.2).map fun s => (.v r.1 :: s.1, s.2)
def aS (i : Nat) (fr : Af) : Af := fun E => match E[i]? with
  | some (B.o _) => (fr E).map fun s => (.s i :: s.1, s.2)
  | _ => none
variable {es : List Expr} {e : Expr} {fr : Af}
theorem da_nil : PA X [] (aD X.K io aNil) := pa_nil.imp fun σ H Q w => by
  obtain ⟨Γ, ad, E, d, E', ok, he, q⟩ := w
  cases he
  exact q [] H Frm.refl ok (Sim.refl E) (by unfold RepG; rfl)
theorem da_v (he : PE X e (tD X.K io fa)) (hr : PA X es (aD X.K io fr)) (hs : starEach (e :: es) X.env = (false, eval e X.env) :: starEach es X.env := by rfl) : PA X (e :: es) (aD X.K io (aV fa fr)) :=
  (pa_cons he hr hs).imp fun σ H Q w => by
    show tD X.K io fa σ H fun x H1 => aD X.K io fr σ H1 fun xs H2 => Q (x :: xs) H2
    refine rd_then (f := fa) (g := fun x E1 => (fr E1).map fun s => (.v x :: s.1, s.2)) (fun _ => rfl) w fun Γ ad E x vx H1 y E1 E2 h1 h2 ok1 fr1 sim1 r1 k => ?_
    obtain ⟨⟨gs, E3⟩, h3, h4⟩ := Option.map_eq_some_iff.mp h2
    cases h4
    refine ⟨Γ, ad, E1, gs, E3, ok1, h3, fun vs H2 fr2 ok2 sim2 r2 => k _ H2 fr2 ok2 sim2 ?_⟩
    rw [sim1.Ao] at r2 ⊢
    have r1' := (Go.frm fr2 ok1.wa).rep x vx (by rw [sim1.Ao]; exact r1)
    rw [sim1.Ao] at r1'
    exact ⟨vx, vs, rfl, r1', r2⟩
theorem da_s {i : Nat} (he : PE X e (tVar i)) (hr : PA X es (aD X.K io fr)) (hs : starEach (e :: es) X.env = (false, eval e X.env) :: starEach es X.env := by rfl) : PA X (e :: es) (aD X.K io (aS i fr)) :=
  (pa_cons he hr hs).imp fun σ H Q w => by
    obtain ⟨Γ, ad, E, d, E', ok, he, q⟩ := w
    unfold aS at he
    split at he
    · rename_i m hd
      obtain ⟨⟨gs, E3⟩, h3, h4⟩ := Option.map_eq_some_iff.mp he
      cases h4
      refine ⟨_, (ok.ob i m hd).1, Γ, ad, E, gs, E3, ok, h3, fun vs H2 fr2 ok2 sim2 r2 => q _ H2 fr2 ok2 sim2 ?_⟩
      exact ⟨vs, rfl, r2⟩
    · cases he
/-- what an argument is when all are there -/
def resG (E : Env') : G → Option PyData
  | .v d => some d
  | .s i => ownL i E
def resAll (E : Env') : List G → Option (List PyData)
  | [] => some []
  | g :: gs => (resG E g).bind fun d => (resAll E gs).map fun ds => d :: ds
def fB {β : Type} (g : List PyData → Option β) (args : Af) : Ev β := fun E => (args E).bind fun r => (resAll r.2 r.1).bind fun ds => (g ds).map fun z => (z, r.2)
inductive RepSL (K : PySem.W.Frag) (H : Hp) (A : Addr → Prop) : List PyData → List V → Prop where
  | nil : RepSL K H A [] []
  | cons {d : PyData} {v : V} {ds : List PyData} {vs : List V} (h : RepS K H A d v) (hs : RepSL K H A ds vs) : RepSL K H A (d :: ds) (v :: vs)
theorem RepSL.one {K : PySem.W.Frag} {H : Hp} {A : Addr → Prop} {d : PyData} {vs : List V} (h : RepSL K H A [d] vs) : ∃ v, vs = [v] ∧ RepS K H A d v := by
  cases h with
  | cons h hs => cases hs; exact ⟨_, rfl, h⟩
theorem RepSL.two {K : PySem.W.Frag} {H : Hp} {A : Addr → Prop} {d e : PyData} {vs : List V} (h : RepSL K H A [d, e] vs) : ∃ v u, vs = [v, u] ∧ RepS K H A d v ∧ RepS K H A e u := by
  cases h with
  | cons h hs => cases hs with
    | cons h2 hs => cases hs; exact ⟨_, _, rfl, h, h2⟩
theorem res_rep {K : PySem.W.Frag} {Γ : Gm} {ad : Nat → Addr} {σ : L2.St} {H : Hp} {E : Env'} (ok : EOk K Γ io ad σ H E) : ∀ {gs : List G} {ds : List PyData} {vs : List V}, resAll E gs = some ds → RepG ad K H (Ao Γ io ad E) gs vs → RepSL K H (Ao Γ io ad E) ds vs
  | [], ds, vs, h, r => by cases h; unfold RepG at r; subst r; exact .nil
  | .v d :: gs, ds, vs, h, r => by
    obtain ⟨d', h1, h2⟩ := Option.bind_eq_some_iff.mp h
    obtain ⟨ds', h3, h4⟩ := Option.map_eq_some_iff.mp h2
    cases h1
    subst h4
    obtain ⟨v, r', e, r1, r2⟩ := r
    subst e
    exact .cons (.d r1) (res_rep ok h3 r2)
  | .s i :: gs, ds, vs, h, r => by
    obtain ⟨d', h1, h2⟩ := Option.bind_eq_some_iff.mp h
    obtain ⟨ds', h3, h4⟩ := Option.map_eq_some_iff.mp h2
    subst h4
    obtain ⟨r', e, r2⟩ := r
    subst e
    exact .cons (ownL_rep ok h1).2 (res_rep ok h3 r2)
def CS (K : PySem.W.Frag) (r : List V → Hp → VK → Prop) (g : List PyData → Option PyData) : Prop := ∀ (H : Hp) (A : Addr → Prop) (ds : List PyData) (z : PyData) (vs : List V) (Q : VK), (∀ a, A a → H a ≠ none) → RepSL K H A ds vs → g ds = some z →
  (∀ v H', Frm F0 H H' → RepD K H' A z v → Q v H') → r vs H Q
theorem tdB {r : List V → Hp → VK → Prop} {g : List PyData → Option PyData} (hr : CS X.K r g) {σ : L2.St} {H : Hp} {Q : VK} (w : tD X.K io (fB g fr) σ H Q) : aD X.K io fr σ H fun vs H1 => r vs H1 Q := by
  refine rd_then (f := fr) (g := fun x E1 => (resAll E1 x).bind fun ds => (g ds).map fun z => (z, E1)) (fun _ => rfl) w fun Γ ad E x vx H1 y E1 E2 h1 h2 ok1 fr1 sim1 r1 k => ?_
  obtain ⟨ds, h3, h4⟩ := Option.bind_eq_some_iff.mp h2
  obtain ⟨z, hz, e⟩ := Option.map_eq_some_iff.mp h4
  cases e
  refine hr H1 _ ds y vx Q ok1.on (res_rep ok1 h3 (by rw [sim1.Ao]; exact r1)) hz fun v H3 fr3 r3 => ?_
  exact k v H3 fr3.of0 (ok1.new fr3) (Sim.refl _) r3
theorem de_callB {id : String} {x : Str} {p : Pos} {r : List V → Hp → VK → Prop} {g : List PyData → Option PyData} (hc : CallR X (.builtin id) r) (hr : CS X.K r g) (hg : Gl X x) (hm : X.mg x = none) (hv : bootBuiltins x = some (.builtin id)) (ha : PA X (e :: es) (aD X.K io fr)) (hn : x ≠ "__name__" := by decide) (hdb : (x == ("__debug__" : Str)) = false := by decide)
    (he : starEach (e :: es) X.env = (false, eval e X.env) :: starEach es X.env := by rfl) (hpl : (backTo pos (starEach es X.env)).any (·.1) = false := by rfl) : PE X (.Call (.Name x p) (e :: es) [] pos) (tD X.K io (fB g fr)) :=
  (pe_callB hc hg hm hv ha hn hdb he hpl).imp fun _ _ _ => tdB hr
theorem de_callTy {T : String} {x : Str} {p : Pos} {r : List V → Hp → VK → Prop} {g : List PyData → Option PyData} (hc : CallR X (.type T) r) (hr : CS X.K r g) (hg : Gl X x) (hm : X.mg x = none) (hv : bootBuiltins x = some (.type T)) (ha : PA X (e :: es) (aD X.K io fr)) (hn : x ≠ "__name__" := by decide) (hdb : (x == ("__debug__" : Str)) = false := by decide)
    (he : starEach (e :: es) X.env = (false, eval e X.env) :: starEach es X.env := by rfl) (hpl : (backTo pos (starEach es X.env)).any (·.1) = false := by rfl) : PE X (.Call (.Name x p) (e :: es) [] pos) (tD X.K io (fB g fr)) :=
  (pe_callTy hc hg hm hv ha hn hdb he hpl).imp fun _ _ _ => tdB hr
end
end DL

namespace DL
open PySem PySem.Spec PyProof.Rows L2

section
variable {X : Cx} {K : PySem.W.Frag} {H : Hp} {A : Addr → Prop}
theorem RepD.int {i : Int} {v : V} (h : RepD K H A (.int i) v) : v = .int i := by unfold RepD at h; exact h
theorem RepD.bl {i : Bool} {v : V} (h : RepD K H A (.bool i) v) : v = .bl i := by unfold RepD at h; exact h
theorem RepD.non {v : V} (h : RepD K H A .none v) : v = .non := by unfold RepD at h; exact h
theorem RepD.str {x : Str} {v : V} (h : RepD K H A (.str x) v) : v = .str x ∧ x.length ≤ sizeLine := by unfold RepD at h; exact h
theorem RepD.tup {xs : List PyData} {v : V} (h : RepD K H A (.tuple xs) v) : ∃ a vs, v = .ref a ∧ TupA K H A a vs ∧ vs.length ≤ sizeLine ∧ RepL K H A xs vs := by unfold RepD at h; exact h
theorem RepD.lst {xs : List PyData} {v : V} (h : RepD K H A (.list xs) v) : ∃ a vs, v = .ref a ∧ LstA K H A a vs ∧ vs.length ≤ sizeLine ∧ RepL K H A xs vs := by unfold RepD at h; exact h
theorem RepD.dic {xs : List (PyData × PyData)} {v : V} (h : RepD K H A (.dict xs) v) : ∃ a, v = .ref a ∧ xs = [] ∧ ¬ A a ∧ H a = some (.dK []) := by unfold RepD at h; exact h
theorem RepS.int {i : Int} {v : V} (h : RepS K H A (.int i) v) : v = .int i := by cases h with | d h => exact h.int
theorem RepS.bl {i : Bool} {v : V} (h : RepS K H A (.bool i) v) : v = .bl i := by cases h with | d h => exact h.bl
theorem RepS.non {v : V} (h : RepS K H A .none v) : v = .non := by cases h with | d h => exact h.non
theorem RepS.str {x : Str} {v : V} (h : RepS K H A (.str x) v) : v = .str x ∧ x.length ≤ sizeLine := by cases h with | d h => exact h.str
theorem RepS.tup {xs : List PyData} {v : V} (h : RepS K H A (.tuple xs) v) : ∃ a vs, v = .ref a ∧ TupA K H A a vs ∧ vs.length ≤ sizeLine ∧ RepL K H A xs vs := by cases h with | d h => exact h.tup
theorem RepS.lst {xs : List PyData} {v : V} (h : RepS K H A (.list xs) v) : ∃ a vs, v = .ref a ∧ Rd H a (.lst vs) ∧ vs.length ≤ sizeLine ∧ RepL K H A xs vs := by
  cases h with
  | d h => obtain ⟨a, vs, e, t, z, r⟩ := h.lst; exact ⟨a, vs, e, t.2, z, r⟩
  | l h z r => exact ⟨_, _, rfl, h, z, r⟩
theorem rep_tup {xs : List PyData} {a : Addr} {vs : List V} (h : TupA K H A a vs) (hz : vs.length ≤ sizeLine) (r : RepL K H A xs vs) : RepD K H A (.tuple xs) (.ref a) := by unfold RepD; exact ⟨a, vs, rfl, h, hz, r⟩
theorem rep_lst {xs : List PyData} {a : Addr} {vs : List V} (h : LstA K H A a vs) (hz : vs.length ≤ sizeLine) (r : RepL K H A xs vs) : RepD K H A (.list xs) (.ref a) := by unfold RepD; exact ⟨a, vs, rfl, h, hz, r⟩
/-- a new tuple, a new list -/
theorem rep_newT {xs : List PyData} {p : Addr} {vs : List V} (hA : ∀ a, A a → H a ≠ none) (hp : H p = none) (hz : vs.length ≤ sizeLine) (r : RepL K H A xs vs) : RepD K (upd H p (.tup vs)) A (.tuple xs) (.ref p) :=
  rep_tup (.inl ⟨fun z => hA p z hp, .inl upd_same⟩) hz ((Go.of_new (Frm.new hp)).repL _ _ r)
theorem rep_newL {xs : List PyData} {p : Addr} {vs : List V} (hA : ∀ a, A a → H a ≠ none) (hp : H p = none) (hz : vs.length ≤ sizeLine) (r : RepL K H A xs vs) : RepD K (upd H p (.lst vs)) A (.list xs) (.ref p) :=
  rep_lst ⟨fun z => hA p z hp, .inl upd_same⟩ hz ((Go.of_new (Frm.new hp)).repL _ _ r)

/-! ### + -/
def oAdd : PyData → PyData → Option PyData
  | .int i, .int j => some (.int (i + j))
  | .str x, .str y => if x.length + y.length ≤ sizeLine then some (.str (x ++ y)) else none
  | .tuple xs, .tuple ys => if xs.length + ys.length ≤ sizeLine then some (.tuple (xs ++ ys)) else none
  | .list xs, .list ys => if xs.length + ys.length ≤ sizeLine then some (.list (xs ++ ys)) else none
  | _, _ => none
def rCatR : R2 := fun x y H Q => ∃ l b xs zs, x = .ref l ∧ y = .ref b ∧ Rd H l (.lst xs) ∧ Rd H b (.lst zs) ∧ xs.length + zs.length ≤ sizeLine ∧ ∀ p, H p = none → Q (.ref p) (upd H p (.lst (xs ++ zs)))
theorem rdL {pins : List (Addr × Obj)} {σ : L2.St} {s : Shared} {a : Addr} {xs : List V} (I : Inv X pins σ H s) (h : Rd H a (.lst xs)) :
    xs.length ≤ sizeLine ∧ ∃ (its : List Value) (n : Nat), Vals xs its ∧ xs.length = its.length ∧ s.heap.get? a = some { cls := .type "list", data := .seq its.toArray n } := by
  obtain ⟨hz, its, n, r, e⟩ := h.ok I.hok
  exact ⟨hz, its, n, r, r.length, e⟩
theorem op_catR : OpR X (binaryOp .Add) rCatR := by
  intro pins s σ H x y v u Q I rx ry h
  obtain ⟨l, b, xs, zs, rfl, rfl, hH, hB, hz, q⟩ := h
  cases rx
  cases ry
  obtain ⟨z, its, n, r, hl, e⟩ := rdL I hH
  obtain ⟨z2, its2, n2, r2, hl2, e2⟩ := rdL I hB
  refine PySem.P.add_list e e2 ?_ (by rw [List.size_toArray, List.size_toArray]; omega)
  have ea : its.toArray ++ its2.toArray = (its ++ its2).toArray := by simp
  rw [ea]
  exact ⟨.ref _, _, I.lnew (t' := s.toks) (r.append r2) (by rw [List.length_append]; omega), rfl, q _ I.fresh⟩
def rAddD (K : PySem.W.Frag) : R2 := fun x y H Q => (rI0 (fun i j => .int (i + j)) x y H Q ∨ (∃ i j, x = .str i ∧ y = .str j ∧ i.length + j.length ≤ sizeLine ∧ Q (.str (i ++ j)) H)) ∨ (rCatA K x y H Q ∨ rCatR x y H Q)
theorem op_addD : OpR X (binaryOp .Add) (rAddD X.K) := (op_add.or op_add_str).or (op_catA.or op_catR)
theorem length_append_str (x y : Str) : (x ++ y).length = x.length + y.length := by
  show (x.cps ++ y.cps).size = _
  rw [Array.size_append] <;> rfl
theorem rs_add : RS K (rAddD K) oAdd := by
  intro H A x y z vx vy Q hA rx ry hz k
  unfold oAdd at hz
  split at hz
  · cases hz; cases rx.int; cases ry.int
    exact .inl (.inl ⟨_, _, rfl, rfl, k _ _ Frm.refl rep_int⟩)
  · split at hz
    · rename_i hl
      cases hz
      obtain ⟨e1, _⟩ := rx.str
      obtain ⟨e2, _⟩ := ry.str
      subst e1 e2
      exact .inl (.inr ⟨_, _, rfl, rfl, hl, k _ _ Frm.refl (rep_str (by rw [length_append_str]; exact hl))⟩)
    · cases hz
  · split at hz
    · rename_i xs ys hl
      cases hz
      obtain ⟨a, vs, e1, t1, z1, r1⟩ := rx.tup
      obtain ⟨b, ws, e2, t2, z2, r2⟩ := ry.tup
      subst e1 e2
      have l1 := r1.length
      have l2 := r2.length
      refine .inr (.inl ⟨a, b, vs, ws, rfl, rfl, t1.sq, t2.sq, by omega, fun hv => ?_, fun _ hw => ?_, fun _ _ p hp => ?_⟩)
      · subst hv
        have : xs = [] := List.length_eq_zero_iff.mp l1.symm
        subst this
        exact k _ _ Frm.refl (rep_tup t2 z2 r2)
      · subst hw
        have : ys = [] := List.length_eq_zero_iff.mp l2.symm
        subst this
        rw [List.append_nil] at k
        exact k _ _ Frm.refl (rep_tup t1 z1 r1)
      · exact k _ _ (Frm.new hp) (rep_newT hA hp (by rw [List.length_append]; omega) (r1.append r2))
    · cases hz
  · split at hz
    · rename_i xs ys hl
      cases hz
      obtain ⟨a, vs, e1, t1, z1, r1⟩ := rx.lst
      obtain ⟨b, ws, e2, t2, z2, r2⟩ := ry.lst
      subst e1 e2
      have l1 := r1.length
      have l2 := r2.length
      exact .inr (.inr ⟨a, b, vs, ws, rfl, rfl, t1, t2, by omega, fun p hp => k _ _ (Frm.new hp) (rep_newL hA hp (by rw [List.length_append]; omega) (r1.append r2))⟩)
    · cases hz
  · cases hz
/-! ### - * // % ** -/
def oSub : PyData → PyData → Option PyData
  | .int i, .int j => some (.int (i - j))
  | _, _ => none
theorem rs_sub : RS K (rI0 fun i j => .int (i - j)) oSub := by
  intro H A x y z vx vy Q hA rx ry hz k
  unfold oSub at hz
  split at hz
  · cases hz; cases rx.int; cases ry.int
    exact ⟨_, _, rfl, rfl, k _ _ Frm.refl rep_int⟩
  · cases hz
def oMul : PyData → PyData → Option PyData
  | .int i, .int j => if i.natAbs.log2 + j.natAbs.log2 < 1000000 then some (.int (i * j)) else none
  | .list xs, .int k => if -(2 ^ 63) ≤ k ∧ k < 2 ^ 63 ∧ xs.length * k.toNat ≤ sizeLine then some (.list (List.replicate k.toNat xs).flatten) else none
  | _, _ => none
def rRepR : R2 := fun x y H Q => ∃ l k xs, x = .ref l ∧ y = .int k ∧ Rd H l (.lst xs) ∧ -(2 ^ 63) ≤ k ∧ k < 2 ^ 63 ∧ xs.length * k.toNat ≤ sizeLine ∧
  ∀ p, H p = none → Q (.ref p) (upd H p (.lst (List.replicate k.toNat xs).flatten))
theorem op_repR : OpR X (binaryOp .Mult) rRepR := by
  intro pins s σ H x y v u Q I rx ry h
  obtain ⟨l, k, xs, rfl, rfl, hH, h1, h2, hz, q⟩ := h
  cases rx
  obtain ⟨t, rfl⟩ := ry
  obtain ⟨z, its, n, r, hl, e⟩ := rdL I hH
  have hlen : its.toArray.size * k.toNat ≤ sizeLine := by rw [List.size_toArray, ← hl]; exact hz
  have hcap : ¬ its.toArray.size * k.toNat > (2 ^ 63 - 1) / 8 := by
    have : (sizeLine : Nat) ≤ (2 ^ 63 - 1) / 8 := by decide
    omega
  have hfit : ¬ (!Builtin.List.listFitsIndex k) = true := by
    rw [fitsIndex_both h1 h2]
    exact Bool.false_ne_true
  have hlong : ¬ Builtin.List.listTooLong (its.toArray.size * k.toNat) = true := by
    rw [notLongL hlen]
    exact Bool.false_ne_true
  have hnew : List.foldl (fun x1 x2 => x1 ++ x2) #[] (List.replicate (if its.toArray.isEmpty = true then 0 else k.toNat) its.toArray) = (List.replicate k.toNat its).flatten.toArray := by
    have f0 : ∀ m : Nat, List.foldl (fun x1 x2 => x1 ++ x2) #[] (List.replicate m its.toArray) = (List.replicate m its).flatten.toArray := fun m => by
      have := foldl_rep its m []
      rw [List.nil_append] at this
      exact this
    rw [f0]
    cases its with
    | nil => simp
    | cons a r' => rw [if_neg (by simp)]
  refine wpAny_binaryOp_repeat_ref (T := "list") (U := "int") (by decide) ⟨_, e, rfl⟩ (fun s' => typeIs_int s' k t) noFill_list_mul F.fills_int_mul F.slot_int_rmul repeat_list F.slot_int_index.lookup
    (call_meets F.slot_int_rmul (typeIs_int s k t) F.entry_int_rmul (F.args_int_rmul_2 _ _) (int___rmul___int_list k t l its.toArray n)
      ⟨e, rfl, ⟨_, e, rfl⟩, call_meets F.slot_list_mul ⟨_, e, rfl⟩ F.entry_list_mul (F.args_list_mul_2 _ _) (AutoListH.list___mul___list_int_3 l its.toArray n k t hfit hcap hlong) ⟨e, ?_⟩⟩)
  rw [hnew]
  exact ⟨.ref _, _, I.lnew (t' := s.toks) (r.rep k.toNat) (by rw [PyProof.Rows.lm_len_rep_flat, Nat.mul_comm]; exact hz), rfl, q _ I.fresh⟩
def rMulD : R2 := fun x y H Q => rI CMulW (fun i j => .int (i * j)) x y H Q ∨ rRepR x y H Q
theorem op_mulD : OpR X (binaryOp .Mult) rMulD := op_mulW.or op_repR
theorem RepL.rep {ds : List PyData} {vs : List V} (h : RepL K H A ds vs) : ∀ k : Nat, RepL K H A (List.replicate k ds).flatten (List.replicate k vs).flatten
  | 0 => repL_nil
  | k + 1 => by
    rw [List.replicate_succ, List.replicate_succ, List.flatten_cons, List.flatten_cons]
    exact h.append (RepL.rep h k)
theorem rs_mul : RS K rMulD oMul := by
  intro H A x y z vx vy Q hA rx ry hz k
  unfold oMul at hz
  split at hz
  · split at hz
    · rename_i hl
      cases hz; cases rx.int; cases ry.int
      exact .inl ⟨_, _, rfl, rfl, hl, k _ _ Frm.refl rep_int⟩
    · cases hz
  · split at hz
    · rename_i xs n hl
      obtain ⟨h1, h2, h3⟩ := hl
      cases hz
      obtain ⟨a, vs, e1, t1, z1, r1⟩ := rx.lst
      cases ry.int
      subst e1
      have l1 := r1.length
      refine .inr ⟨a, n, vs, rfl, rfl, t1, h1, h2, by rw [l1]; exact h3, fun p hp => k _ _ (Frm.new hp) (rep_newL hA hp ?_ (r1.rep _))⟩
      rw [PyProof.Rows.lm_len_rep_flat, Nat.mul_comm, l1]; exact h3
    · cases hz
  · cases hz
def oDiv : PyData → PyData → Option PyData
  | .int i, .int j => if 0 < j ∧ j.natAbs.log2 < 9000 then some (.int (i / j)) else none
  | _, _ => none
theorem rs_div : RS K (rI CDivW fun i j => .int (i / j)) oDiv := by
  intro H A x y z vx vy Q hA rx ry hz k
  unfold oDiv at hz
  split at hz
  · split at hz
    · rename_i hl
      cases hz; cases rx.int; cases ry.int
      exact ⟨_, _, rfl, rfl, hl, k _ _ Frm.refl rep_int⟩
    · cases hz
  · cases hz
def oMod : PyData → PyData → Option PyData
  | .int i, .int j => if 0 < j then some (.int (i % j)) else none
  | _, _ => none
theorem rs_mod : RS K (rI (fun _ j => 0 < j) fun i j => .int (i % j)) oMod := by
  intro H A x y z vx vy Q hA rx ry hz k
  unfold oMod at hz
  split at hz
  · split at hz
    · rename_i hl
      cases hz; cases rx.int; cases ry.int
      exact ⟨_, _, rfl, rfl, hl, k _ _ Frm.refl rep_int⟩
    · cases hz
  · cases hz
def oPow : PyData → PyData → Option PyData
  | .int i, .int j => if 0 ≤ j ∧ j ≤ 1000000 ∧ i.natAbs < 2 ^ 64 then some (.int (i ^ j.toNat)) else none
  | _, _ => none
theorem rs_pow : RS K (rI CPow fun i j => .int (i ^ j.toNat)) oPow := by
  intro H A x y z vx vy Q hA rx ry hz k
  unfold oPow at hz
  split at hz
  · split at hz
    · rename_i hl
      cases hz; cases rx.int; cases ry.int
      exact ⟨_, _, rfl, rfl, hl, k _ _ Frm.refl rep_int⟩
    · cases hz
  · cases hz
/-! ### < <= > >= -/
def oRel (p : Int → Int → Bool) : PyData → PyData → Option PyData
  | .int i, .int j => some (.bool (p i j))
  | _, _ => none
theorem rs_rel (p : Int → Int → Bool) : RS K (rI0 fun i j => .bl (p i j)) (oRel p) := by
  intro H A x y z vx vy Q hA rx ry hz k
  unfold oRel at hz
  split at hz
  · cases hz; cases rx.int; cases ry.int
    exact ⟨_, _, rfl, rfl, k _ _ Frm.refl rep_bl⟩
  · cases hz
end
end DL

namespace DL
open PySem PySem.Spec PyProof.Rows L2

section
variable {X : Cx} {K : PySem.W.Frag} {H : Hp} {A : Addr → Prop}
/-! ### == != -/
mutual
theorem RepD.dp : ∀ (d : PyData) (v : V), RepD K H A d v → d.canLay0 = true → Dp K H v d
  | .none, v, h, _ => by cases h.non; exact .non
  | .bool b, v, h, _ => by cases h.bl; exact .bl b
  | .int i, v, h, _ => by cases h.int; exact .int i
  | .str x, v, h, _ => by obtain ⟨e, _⟩ := h.str; subst e; exact .str x
  | .tuple xs, v, h, c => by
    obtain ⟨a, vs, e, t, _, r⟩ := h.tup
    subst e
    exact .tup t.sq (RepL.dp xs vs r (by simpa [PyData.canLay0] using c))
  | .list xs, v, h, c => by
    obtain ⟨a, vs, e, t, _, r⟩ := h.lst
    subst e
    exact .lst t.sq (RepL.dp xs vs r (by simpa [PyData.canLay0] using c))
  | .dict _, _, _, c => by simp [PyData.canLay0] at c
theorem RepL.dp : ∀ (ds : List PyData) (vs : List V), RepL K H A ds vs → PyData.canLayAll0 ds = true → DpAll K H vs ds
  | [], vs, h, _ => by unfold RepL at h; subst h; exact .nil
  | d :: ds, vs, h, c => by
    unfold RepL at h
    obtain ⟨v, r, e, h1, h2⟩ := h
    subst e
    have c' : d.canLay0 = true ∧ PyData.canLayAll0 ds = true := by simpa [PyData.canLayAll0] using c
    exact .cons (RepD.dp d v h1 c'.1) (RepL.dp ds r h2 c'.2)
end
theorem RepS.dp {d : PyData} {v : V} (h : RepS K H A d v) (c : d.canLay0 = true) : Dp K H v d := by
  cases h with
  | d h => exact h.dp _ _ c
  | l h z r => exact .lst (.inl h) (RepL.dp _ _ r (by simpa [PyData.canLay0] using c))
/-- what is told by the kinds of both alone -/
def scB : PyData → PyData → Option Bool
  | .str x, .str y => some (decide (x = y))
  | .int x, .int y => some (decide (x = y))
  | .bool x, .bool y => some (decide (x = y))
  | .none, .none => some true
  | .none, .int _ => some false
  | .int _, .none => some false
  | .none, .bool _ => some false
  | .bool _, .none => some false
  | .none, .str _ => some false
  | .str _, .none => some false
  | .int _, .str _ => some false
  | .str _, .int _ => some false
  | .bool _, .str _ => some false
  | .str _, .bool _ => some false
  | .tuple _, .none => some false
  | .tuple _, .bool _ => some false
  | .tuple _, .int _ => some false
  | .tuple _, .str _ => some false
  | .none, .tuple _ => some false
  | .bool _, .tuple _ => some false
  | .int _, .tuple _ => some false
  | .str _, .tuple _ => some false
  | .tuple xs, .tuple ys => if xs.isEmpty || ys.isEmpty then some (xs.isEmpty && ys.isEmpty) else none
  | _, _ => none
def eqB (x y : PyData) : Option Bool := match scB x y with
  | some b => some b
  | none => if SeqAt.shaped x && SeqAt.shaped y then some (PyData.eqv x y) else none
def oEq (x y : PyData) : Option PyData := (eqB x y).map .bool
def oNe (x y : PyData) : Option PyData := (eqB x y).map fun b => .bool (!b)
/-- a tuple and a scalar -/
def tupScal (K : PySem.W.Frag) (H : Hp) (x y : V) : Prop := ∃ a xs, x = .ref a ∧ SqT K H a xs ∧ flatV y = true
def rEqX (K : PySem.W.Frag) (f : Bool → Bool) : R2 := fun x y H Q => (tupScal K H x y ∨ tupScal K H y x) ∧ Q (.bl (f false)) H
theorem op_eqX (hu : X.A.units + 64 < cLine) : OpR X (compareOp .Eq) (rEqX X.K id) := by
  intro pins s σ H x y v u Q I rx ry h
  have hu' : X.A.units < cLine := by omega
  obtain ⟨h | h, q⟩ := h
  · obtain ⟨a, xs, rfl, t, f⟩ := h
    cases rx
    obtain ⟨its, r, p, _⟩ := I.tuple t
    cases y with
    | non => cases ry; exact SeqAt.RcAt.tuple_none p hu' _ _ _ _ ⟨.bl _, H, I, rfl, q⟩
    | bl b => cases ry; exact SeqAt.RcAt.tuple_bool b p hu' _ _ _ _ ⟨.bl _, H, I, rfl, q⟩
    | int b => obtain ⟨t, rfl⟩ := ry; exact SeqAt.RcAt.tuple_int b _ p hu' _ _ _ _ ⟨.bl _, H, I, rfl, q⟩
    | str b => obtain ⟨t, rfl⟩ := ry; exact SeqAt.RcAt.tuple_str b _ p hu' _ _ _ _ ⟨.bl _, H, I, rfl, q⟩
    | _ => cases f
  · obtain ⟨a, xs, rfl, t, f⟩ := h
    cases ry
    obtain ⟨its, r, p, _⟩ := I.tuple t
    cases x with
    | non => cases rx; exact SeqAt.RcAt.none_tuple p hu' _ _ _ _ ⟨.bl _, H, I, rfl, q⟩
    | bl b => cases rx; exact SeqAt.RcAt.bool_tuple b p hu' _ _ _ _ ⟨.bl _, H, I, rfl, q⟩
    | int b => obtain ⟨t, rfl⟩ := rx; exact SeqAt.RcAt.int_tuple b _ p hu' _ _ _ _ ⟨.bl _, H, I, rfl, q⟩
    | str b => obtain ⟨t, rfl⟩ := rx; exact SeqAt.RcAt.str_tuple b _ p hu' _ _ _ _ ⟨.bl _, H, I, rfl, q⟩
    | _ => cases f
theorem op_neX (hu : X.A.units + 64 < cLine) : OpR X (compareOp .NotEq) (rEqX X.K not) := by
  intro pins s σ H x y v u Q I rx ry h
  have hu' : X.A.units < cLine := by omega
  obtain ⟨h | h, q⟩ := h
  · obtain ⟨a, xs, rfl, t, f⟩ := h
    cases rx
    obtain ⟨its, r, p, _⟩ := I.tuple t
    cases y with
    | non => cases ry; exact SeqAt.RcNeAt.tuple_none p hu' _ _ _ _ ⟨.bl _, H, I, rfl, q⟩
    | bl b => cases ry; exact SeqAt.RcNeAt.tuple_bool b p hu' _ _ _ _ ⟨.bl _, H, I, rfl, q⟩
    | int b => obtain ⟨t, rfl⟩ := ry; exact SeqAt.RcNeAt.tuple_int b _ p hu' _ _ _ _ ⟨.bl _, H, I, rfl, q⟩
    | str b => obtain ⟨t, rfl⟩ := ry; exact SeqAt.RcNeAt.tuple_str b _ p hu' _ _ _ _ ⟨.bl _, H, I, rfl, q⟩
    | _ => cases f
  · obtain ⟨a, xs, rfl, t, f⟩ := h
    cases ry
    obtain ⟨its, r, p, _⟩ := I.tuple t
    cases x with
    | non => cases rx; exact SeqAt.RcNeAt.none_tuple p hu' _ _ _ _ ⟨.bl _, H, I, rfl, q⟩
    | bl b => cases rx; exact SeqAt.RcNeAt.bool_tuple b p hu' _ _ _ _ ⟨.bl _, H, I, rfl, q⟩
    | int b => obtain ⟨t, rfl⟩ := rx; exact SeqAt.RcNeAt.int_tuple b _ p hu' _ _ _ _ ⟨.bl _, H, I, rfl, q⟩
    | str b => obtain ⟨t, rfl⟩ := rx; exact SeqAt.RcNeAt.str_tuple b _ p hu' _ _ _ _ ⟨.bl _, H, I, rfl, q⟩
    | _ => cases f
/-- two tuples, one of them empty -/
def rEqN (K : PySem.W.Frag) (f : Bool → Bool) : R2 := fun x y H Q => ∃ a b xs ys, x = .ref a ∧ y = .ref b ∧ SqT K H a xs ∧ SqT K H b ys ∧ (xs.isEmpty || ys.isEmpty) = true ∧ Q (.bl (f (xs.isEmpty && ys.isEmpty))) H
theorem nil_all {α β : Type} {xs : List α} {ys : List β} (h : (xs.isEmpty || ys.isEmpty) = true) (e : Nat → Bool) : ((List.range (min xs.length ys.length)).all e && xs.length == ys.length) = (xs.isEmpty && ys.isEmpty) := by
  cases xs with
  | nil => cases ys <;> simp
  | cons x xs => cases ys with
    | nil => simp
    | cons y ys => cases h
theorem op_eqN (hu : X.A.units + 64 < cLine) : OpR X (compareOp .Eq) (rEqN X.K id) := by
  intro pins s σ H x y v u Q I rx ry h
  obtain ⟨a, b, xs, ys, rfl, rfl, ta, tb, hn, q⟩ := h
  cases rx
  cases ry
  obtain ⟨its, r, p, _⟩ := I.tuple ta
  obtain ⟨its2, r2, p2, _⟩ := I.tuple tb
  have l1 := r.length
  have l2 := r2.length
  refine SeqAt.RcAt.tuples (e := fun _ => false) p p2 (by omega) (fun j h1 h2 => ?_) _ _ _ _ ?_
  · exfalso
    rw [List.size_toArray] at h1 h2
    cases xs with
    | nil => simp at l1; omega
    | cons x xs => cases ys with
      | nil => simp at l2; omega
      | cons y ys => cases hn
  · refine ⟨.bl _, H, I, ?_, q⟩
    show Value.bool _ = Value.bool _
    rw [List.size_toArray, List.size_toArray, ← l1, ← l2, nil_all hn] <;> rfl
theorem op_neN (hu : X.A.units + 64 < cLine) : OpR X (compareOp .NotEq) (rEqN X.K not) := by
  intro pins s σ H x y v u Q I rx ry h
  obtain ⟨a, b, xs, ys, rfl, rfl, ta, tb, hn, q⟩ := h
  cases rx
  cases ry
  obtain ⟨its, r, p, _⟩ := I.tuple ta
  obtain ⟨its2, r2, p2, _⟩ := I.tuple tb
  have l1 := r.length
  have l2 := r2.length
  refine SeqAt.RcNeAt.tuples (e := fun _ => false) p p2 (by omega) (fun j h1 h2 => ?_) _ _ _ _ ?_
  · exfalso
    rw [List.size_toArray] at h1 h2
    cases xs with
    | nil => simp at l1; omega
    | cons x xs => cases ys with
      | nil => simp at l2; omega
      | cons y ys => cases hn
  · refine ⟨.bl _, H, I, ?_, q⟩
    show Value.bool _ = Value.bool _
    rw [List.size_toArray, List.size_toArray, ← l1, ← l2, nil_all hn] <;> rfl
def rEqA (K : PySem.W.Frag) : R2 := fun x y H Q => (rEq x y H Q ∨ rEqX K id x y H Q) ∨ (rEqN K id x y H Q ∨ rEqD K x y H Q)
def rNeA (K : PySem.W.Frag) : R2 := fun x y H Q => (rNe x y H Q ∨ rEqX K not x y H Q) ∨ (rEqN K not x y H Q ∨ rNeD K x y H Q)
theorem op_eqA (hu : X.A.units + 64 < cLine) : OpR X (compareOp .Eq) (rEqA X.K) := (op_eq.or (op_eqX hu)).or ((op_eqN hu).or (op_eqD hu))
theorem op_neA (hu : X.A.units + 64 < cLine) : OpR X (compareOp .NotEq) (rNeA X.K) := (op_ne.or (op_neX hu)).or ((op_neN hu).or (op_neD hu))
theorem eq_shape {x y : PyData} {b : Bool} {vx vy : V} (hA : ∀ a, A a → H a ≠ none) (rx : RepS K H A x vx) (ry : RepS K H A y vy) (h : eqB x y = some b) :
    (scal vx vy = true ∧ decide (vx = vy) = b) ∨ ((tupScal K H vx vy ∨ tupScal K H vy vx) ∧ b = false) ∨
      (∃ p q xs ys, vx = .ref p ∧ vy = .ref q ∧ SqT K H p xs ∧ SqT K H q ys ∧ (xs.isEmpty || ys.isEmpty) = true ∧ (xs.isEmpty && ys.isEmpty) = b) ∨
      (∃ d e, Dp K H vx d ∧ Dp K H vy e ∧ SeqAt.shaped d = true ∧ SeqAt.shaped e = true ∧ PyData.eqv d e = b) := by
  unfold eqB at h
  split at h
  · rename_i b' e
    cases h
    unfold scB at e
    split at e
    all_goals first
      | (cases e; obtain ⟨e1, _⟩ := rx.str; obtain ⟨e2, _⟩ := ry.str; subst e1 e2; exact .inl ⟨rfl, by simp⟩)
      | (cases e; cases rx.int; cases ry.int; exact .inl ⟨rfl, by simp⟩)
      | (cases e; cases rx.bl; cases ry.bl; exact .inl ⟨rfl, by simp⟩)
      | (cases e; cases rx.non; cases ry.non; exact .inl ⟨rfl, by simp⟩)
      | (cases e; cases rx.non; cases ry.int; exact .inl ⟨rfl, by simp⟩)
      | (cases e; cases rx.int; cases ry.non; exact .inl ⟨rfl, by simp⟩)
      | (cases e; cases rx.non; cases ry.bl; exact .inl ⟨rfl, by simp⟩)
      | (cases e; cases rx.bl; cases ry.non; exact .inl ⟨rfl, by simp⟩)
      | (cases e; cases rx.non; obtain ⟨e2, _⟩ := ry.str; subst e2; exact .inl ⟨rfl, by simp⟩)
      | (cases e; obtain ⟨e2, _⟩ := rx.str; subst e2; cases ry.non; exact .inl ⟨rfl, by simp⟩)
      | (cases e; cases rx.int; obtain ⟨e2, _⟩ := ry.str; subst e2; exact .inl ⟨rfl, by simp⟩)
      | (cases e; obtain ⟨e2, _⟩ := rx.str; subst e2; cases ry.int; exact .inl ⟨rfl, by simp⟩)
      | (cases e; cases rx.bl; obtain ⟨e2, _⟩ := ry.str; subst e2; exact .inl ⟨rfl, by simp⟩)
      | (cases e; obtain ⟨e2, _⟩ := rx.str; subst e2; cases ry.bl; exact .inl ⟨rfl, by simp⟩)
      | (cases e; obtain ⟨a, vs, e1, t, _, _⟩ := rx.tup; subst e1; first
          | (cases ry.non; exact .inr (.inl ⟨.inl ⟨a, vs, rfl, t.sq, rfl⟩, rfl⟩))
          | (cases ry.bl; exact .inr (.inl ⟨.inl ⟨a, vs, rfl, t.sq, rfl⟩, rfl⟩))
          | (cases ry.int; exact .inr (.inl ⟨.inl ⟨a, vs, rfl, t.sq, rfl⟩, rfl⟩))
          | (obtain ⟨e2, _⟩ := ry.str; subst e2; exact .inr (.inl ⟨.inl ⟨a, vs, rfl, t.sq, rfl⟩, rfl⟩)))
      | (cases e; obtain ⟨a, vs, e1, t, _, _⟩ := ry.tup; subst e1; first
          | (cases rx.non; exact .inr (.inl ⟨.inr ⟨a, vs, rfl, t.sq, rfl⟩, rfl⟩))
          | (cases rx.bl; exact .inr (.inl ⟨.inr ⟨a, vs, rfl, t.sq, rfl⟩, rfl⟩))
          | (cases rx.int; exact .inr (.inl ⟨.inr ⟨a, vs, rfl, t.sq, rfl⟩, rfl⟩))
          | (obtain ⟨e2, _⟩ := rx.str; subst e2; exact .inr (.inl ⟨.inr ⟨a, vs, rfl, t.sq, rfl⟩, rfl⟩)))
      | (split at e
         · rename_i hn
           cases e
           obtain ⟨a, vs, e1, t, _, r1⟩ := rx.tup
           obtain ⟨b, ws, e2, t2, _, r2⟩ := ry.tup
           subst e1 e2
           have l1 := r1.length
           have l2 := r2.length
           have q1 : ∀ {α β : Type} {xs : List α} {ys : List β}, xs.length = ys.length → xs.isEmpty = ys.isEmpty := fun {α β xs ys} h => by
             cases xs <;> cases ys <;> simp at h <;> rfl
           exact .inr (.inr (.inl ⟨a, b, vs, ws, rfl, rfl, t.sq, t2.sq, by rw [q1 l1, q1 l2]; exact hn, by rw [q1 l1, q1 l2]⟩))
         · cases e)
      | cases e
  · split at h
    · rename_i hs
      cases h
      obtain ⟨s1, s2⟩ := Bool.and_eq_true_iff.mp hs
      exact .inr (.inr (.inr ⟨x, y, rx.dp (SeqAt.canLay_of_shaped s1), ry.dp (SeqAt.canLay_of_shaped s2), s1, s2, rfl⟩))
    · cases h
theorem rs_eq : RS K (rEqA K) oEq := by
  intro H A x y z vx vy Q hA rx ry hz k
  obtain ⟨b, hb, e⟩ := Option.map_eq_some_iff.mp hz
  subst e
  have q := k _ _ Frm.refl (rep_bl (b := b))
  rcases eq_shape hA rx ry hb with ⟨h1, h2⟩ | ⟨h1, h2⟩ | ⟨p, p', xs, ys, h1, h2, h3, h4, h5, h6⟩ | ⟨d, e, h1, h2, h3, h4, h5⟩
  · exact .inl (.inl ⟨h1, by rw [h2]; exact q⟩)
  · exact .inl (.inr ⟨h1, by rw [h2] at q; exact q⟩)
  · exact .inr (.inl ⟨p, p', xs, ys, h1, h2, h3, h4, h5, by rw [h6]; exact q⟩)
  · exact .inr (.inr ⟨d, e, h1, h2, h3, h4, by rw [h5]; exact q⟩)
theorem rs_ne : RS K (rNeA K) oNe := by
  intro H A x y z vx vy Q hA rx ry hz k
  obtain ⟨b, hb, e⟩ := Option.map_eq_some_iff.mp hz
  subst e
  have q := k _ _ Frm.refl (rep_bl (b := !b))
  rcases eq_shape hA rx ry hb with ⟨h1, h2⟩ | ⟨h1, h2⟩ | ⟨p, p', xs, ys, h1, h2, h3, h4, h5, h6⟩ | ⟨d, e, h1, h2, h3, h4, h5⟩
  · exact .inl (.inl ⟨h1, by rw [h2]; exact q⟩)
  · exact .inl (.inr ⟨h1, by rw [h2] at q; exact q⟩)
  · exact .inr (.inl ⟨p, p', xs, ys, h1, h2, h3, h4, h5, by rw [h6]; exact q⟩)
  · exact .inr (.inr ⟨d, e, h1, h2, h3, h4, by rw [h5]; exact q⟩)
end
end DL

namespace DL
open PySem PySem.Spec PyProof.Rows L2

section
variable {X : Cx} {K : PySem.W.Frag} {H : Hp} {A : Addr → Prop} {io : List Nat} {a b c : Expr} {fa fb fc : Ef} {pos : Pos}
/-! ### in -/
def flatP : PyData → Bool
  | .none => true
  | .bool _ => true
  | .int _ => true
  | .str _ => true
  | _ => false
def eqF : PyData → PyData → Bool
  | .none, .none => true
  | .bool a, .bool b => a == b
  | .bool a, .int b => (if a then 1 else 0) == b
  | .int a, .bool b => a == (if b then 1 else 0)
  | .int a, .int b => a == b
  | .str a, .str b => a == b
  | _, _ => false
theorem RepD.flat {d : PyData} {v : V} (h : RepD K H A d v) (f : flatP d = true) : flatV v = true := by
  cases d with
  | none => cases h.non; rfl
  | bool b => cases h.bl; rfl
  | int b => cases h.int; rfl
  | str b => obtain ⟨e, _⟩ := h.str; subst e; rfl
  | _ => cases f
theorem RepD.eqF {d e : PyData} {v u : V} (h : RepD K H A d v) (h' : RepD K H A e u) (f : flatP d = true) (f' : flatP e = true) : eqV v u = DL.eqF d e := by
  cases d with
  | none => cases h.non; cases e with
    | none => cases h'.non; rfl
    | bool b => cases h'.bl; rfl
    | int b => cases h'.int; rfl
    | str b => obtain ⟨e, _⟩ := h'.str; subst e; rfl
    | _ => cases f'
  | bool b => cases h.bl; cases e with
    | none => cases h'.non; rfl
    | bool b => cases h'.bl; rfl
    | int b => cases h'.int; rfl
    | str b => obtain ⟨e, _⟩ := h'.str; subst e; rfl
    | _ => cases f'
  | int b => cases h.int; cases e with
    | none => cases h'.non; rfl
    | bool b => cases h'.bl; rfl
    | int b => cases h'.int; rfl
    | str b => obtain ⟨e, _⟩ := h'.str; subst e; rfl
    | _ => cases f'
  | str b => obtain ⟨e1, _⟩ := h.str; subst e1; cases e with
    | none => cases h'.non; rfl
    | bool b => cases h'.bl; rfl
    | int b => cases h'.int; rfl
    | str b => obtain ⟨e, _⟩ := h'.str; subst e; rfl
    | _ => cases f'
  | _ => cases f
theorem RepL.flat : ∀ {ds : List PyData} {vs : List V}, RepL K H A ds vs → ds.all flatP = true → vs.all flatV = true
  | [], vs, h, _ => by unfold RepL at h; subst h; rfl
  | d :: ds, vs, h, f => by
    unfold RepL at h
    obtain ⟨v, r, e, h1, h2⟩ := h
    subst e
    rw [List.all_cons] at f ⊢
    obtain ⟨f1, f2⟩ := Bool.and_eq_true_iff.mp f
    rw [h1.flat f1, RepL.flat h2 f2] <;> rfl
theorem RepL.inV {x : PyData} {vx : V} (hx : RepD K H A x vx) (fx : flatP x = true) : ∀ {ds : List PyData} {vs : List V}, RepL K H A ds vs → ds.all flatP = true → L2.inV vx vs = ds.any fun y => DL.eqF y x
  | [], vs, h, _ => by unfold RepL at h; subst h; rfl
  | d :: ds, vs, h, f => by
    unfold RepL at h
    obtain ⟨v, r, e, h1, h2⟩ := h
    subst e
    rw [List.all_cons] at f
    obtain ⟨f1, f2⟩ := Bool.and_eq_true_iff.mp f
    have ih := RepL.inV hx fx h2 f2
    show (eqV v vx || L2.inV vx r) = _
    rw [List.any_cons, ih, h1.eqF hx f1 fx]
def inB (x : PyData) : PyData → Option Bool
  | .tuple ys => if flatP x && ys.all flatP then some (ys.any fun y => eqF y x) else none
  | .list ys => if flatP x && ys.all flatP then some (ys.any fun y => eqF y x) else none
  | .str z => match x with
    | .str w => if w.cps.size = 1 then some (decide (w.cps.getD 0 0 ∈ z.cps.toList)) else none
    | _ => none
  | _ => none
def oIn (x y : PyData) : Option PyData := (inB x y).map .bool
def oNotIn (x y : PyData) : Option PyData := (inB x y).map fun b => .bool (!b)
def rInS (f : Bool → Bool) : R2 := fun x y H Q => ∃ (c : Nat) (z : Str), x = .str ⟨#[c]⟩ ∧ y = .str z ∧ Q (.bl (f (decide (c ∈ z.cps.toList)))) H
def rInA (K : PySem.W.Frag) : R2 := fun x y H Q => rIn K false x y H Q ∨ rInS id x y H Q
def rNotInA (K : PySem.W.Frag) : R2 := fun x y H Q => rIn K true x y H Q ∨ rInS not x y H Q
theorem op_inA : OpR X (compareOp .In) (rInA X.K) := op_in_seq.or op_in_sign
theorem op_notInA : OpR X (compareOp .NotIn) (rNotInA X.K) := op_notIn_seq.or op_notIn_sign
theorem flat_d {x : PyData} {v : V} (h : RepS K H A x v) (f : flatP x = true) : RepD K H A x v := by
  cases h with
  | d h => exact h
  | l _ _ _ => cases f
theorem str_one {w : Str} (h : w.cps.size = 1) : ∃ c, w = ⟨#[c]⟩ := by
  obtain ⟨⟨l⟩⟩ := w
  match l, h with
  | [c], _ => exact ⟨c, rfl⟩
theorem in_shape {x y : PyData} {b : Bool} {vx vy : V} (rx : RepS K H A x vx) (ry : RepS K H A y vy) (h : inB x y = some b) :
    (∃ p xs, vy = .ref p ∧ (SqL K H p xs ∨ SqT K H p xs) ∧ flatV vx = true ∧ xs.all flatV = true ∧ inV vx xs = b) ∨ ∃ (c : Nat) (z : Str), vx = .str ⟨#[c]⟩ ∧ vy = .str z ∧ decide (c ∈ z.cps.toList) = b := by
  unfold inB at h
  split at h
  · split at h
    · rename_i hf
      cases h
      obtain ⟨f1, f2⟩ := Bool.and_eq_true_iff.mp hf
      obtain ⟨a, vs, e1, t, _, r⟩ := ry.tup
      exact .inl ⟨a, vs, e1, .inr t.sq, (flat_d rx f1).flat f1, r.flat f2, r.inV (flat_d rx f1) f1 f2⟩
    · cases h
  · split at h
    · rename_i hf
      cases h
      obtain ⟨f1, f2⟩ := Bool.and_eq_true_iff.mp hf
      obtain ⟨a, vs, e1, t, _, r⟩ := ry.lst
      exact .inl ⟨a, vs, e1, .inl (.inl t), (flat_d rx f1).flat f1, r.flat f2, r.inV (flat_d rx f1) f1 f2⟩
    · cases h
  · split at h
    · split at h
      · rename_i hc
        cases h
        obtain ⟨e1, _⟩ := ry.str
        obtain ⟨e2, _⟩ := rx.str
        obtain ⟨c, hw⟩ := str_one hc
        rw [e2, e1, hw]
        exact .inr ⟨c, _, rfl, rfl, rfl⟩
      · cases h
    · cases h
  · cases h
theorem rs_in : RS K (rInA K) oIn := by
  intro H A x y z vx vy Q hA rx ry hz k
  obtain ⟨b, hb, e⟩ := Option.map_eq_some_iff.mp hz
  subst e
  have q := k _ _ Frm.refl (rep_bl (b := b))
  rcases in_shape rx ry hb with ⟨p, xs, h1, h2, h3, h4, h5⟩ | ⟨c, z, h1, h2, h3⟩
  · exact .inl ⟨p, xs, h1, h2, h3, h4, by rw [if_neg Bool.false_ne_true, h5]; exact q⟩
  · exact .inr ⟨c, z, h1, h2, by show Q (.bl (decide _)) H; rw [h3]; exact q⟩
theorem rs_notIn : RS K (rNotInA K) oNotIn := by
  intro H A x y z vx vy Q hA rx ry hz k
  obtain ⟨b, hb, e⟩ := Option.map_eq_some_iff.mp hz
  subst e
  have q := k _ _ Frm.refl (rep_bl (b := !b))
  rcases in_shape rx ry hb with ⟨p, xs, h1, h2, h3, h4, h5⟩ | ⟨c, z, h1, h2, h3⟩
  · exact .inl ⟨p, xs, h1, h2, h3, h4, by rw [if_pos rfl, h5]; exact q⟩
  · exact .inr ⟨c, z, h1, h2, by show Q (.bl (!decide _)) H; rw [h3]; exact q⟩
/-! ### is None -/
def isNon : PyData → Bool
  | .none => true
  | _ => false
theorem RepD.isNon {d : PyData} {v : V} (h : RepD K H A d v) : decide (v = .non) = DL.isNon d := by
  cases d with
  | none => cases h.non; rfl
  | bool b => cases h.bl; rfl
  | int b => cases h.int; rfl
  | str b => obtain ⟨e, _⟩ := h.str; subst e; rfl
  | tuple xs => obtain ⟨a, vs, e, _⟩ := h.tup; subst e; rfl
  | list xs => obtain ⟨a, vs, e, _⟩ := h.lst; subst e; rfl
  | dict xs => obtain ⟨a, e, _⟩ := h.dic; subst e; rfl
def oIsN (x : PyData) : Option PyData := some (.bool (isNon x))
def oNotN (x : PyData) : Option PyData := some (.bool (!isNon x))
theorem us_isN : US K (fun x H Q => Q (.bl (decide (x = .non))) H) oIsN := by
  intro H A x z vx Q hA rx hz k
  cases hz
  cases rx with
  | d h => show Q (.bl (decide _)) H; rw [h.isNon]; exact k _ _ Frm.refl rep_bl
  | l _ _ _ => exact k _ _ Frm.refl rep_bl
theorem us_notN : US K (fun x H Q => Q (.bl (!decide (x = .non))) H) oNotN := by
  intro H A x z vx Q hA rx hz k
  cases hz
  cases rx with
  | d h => show Q (.bl (!decide _)) H; rw [h.isNon]; exact k _ _ Frm.refl rep_bl
  | l _ _ _ => exact k _ _ Frm.refl rep_bl
theorem de_isN {j : Nat} {p : Pos} (ha : PE X a (tD X.K io fa)) : PE X (.Compare a [.Is] [.Constant .none j p] pos) (tD X.K io (f1 oIsN fa)) := (pe_cmp (pc_isN ha)).imp fun _ _ _ => td1 us_isN
theorem de_notN {j : Nat} {p : Pos} (ha : PE X a (tD X.K io fa)) : PE X (.Compare a [.IsNot] [.Constant .none j p] pos) (tD X.K io (f1 oNotN fa)) := (pe_cmp (pc_notN ha)).imp fun _ _ _ => td1 us_notN
/-! ### an item, a slice -/
def oIx : PyData → PyData → Option PyData
  | .tuple xs, .int i => atI xs i
  | .list xs, .int i => atI xs i
  | .str z, .int i => (atI z.cps.toList i).map fun c => .str ⟨#[c]⟩
  | _, _ => none
theorem RepL.atI {ds : List PyData} {vs : List V} {i : Int} {d : PyData} (h : RepL K H A ds vs) (e : L2.atI ds i = some d) : ∃ v, L2.atI vs i = some v ∧ RepD K H A d v := by
  obtain ⟨j, h1, h2⟩ := Option.bind_eq_some_iff.mp e
  obtain ⟨v, h3, h4⟩ := h.get h2
  exact ⟨v, by show (ixN vs.length i).bind _ = _; rw [h.length, h1]; exact h3, h4⟩
theorem rs_ix : RS K (rIx K) oIx := by
  intro H A x y z vx vy Q hA rx ry hz k
  unfold oIx at hz
  split at hz
  · cases ry.int
    obtain ⟨a, vs, e1, t, _, r⟩ := rx.tup
    obtain ⟨v, h1, h2⟩ := r.atI hz
    exact .inr (.inl ⟨a, vs, _, v, e1, rfl, t.sq, h1, k _ _ Frm.refl h2⟩)
  · cases ry.int
    obtain ⟨a, vs, e1, t, _, r⟩ := rx.lst
    obtain ⟨v, h1, h2⟩ := r.atI hz
    exact .inl ⟨a, vs, _, v, e1, rfl, .inl t, h1, k _ _ Frm.refl h2⟩
  · cases ry.int
    obtain ⟨e1, hl⟩ := rx.str
    obtain ⟨c, h1, h2⟩ := Option.map_eq_some_iff.mp hz
    subst h2
    exact .inr (.inr ⟨_, _, c, e1, rfl, hl, h1, k _ _ Frm.refl (rep_str (by show 1 ≤ sizeLine; decide))⟩)
  · cases hz
def cutP {α : Type} (xs : List α) (lo hi : Option Int) : List α := (xs.drop (HT.sIx xs.length 0 lo)).take (HT.sIx xs.length xs.length hi - HT.sIx xs.length 0 lo)
def oSl : PyData → Option Int → Option Int → Option PyData
  | .tuple xs, lo, hi => some (.tuple (cutP xs lo hi))
  | .list xs, lo, hi => some (.list (cutP xs lo hi))
  | .str z, lo, hi => some (.str (cutS z lo hi))
  | _, _, _ => none
def rSlX (K : PySem.W.Frag) : V → Option Int → Option Int → Hp → VK → Prop := fun x lo hi H Q => rSlA K x lo hi H Q ∨ (rSlL K x lo hi H Q ∨ rSlS x lo hi H Q)
theorem sl_X : SlR X (rSlX X.K) := sl_tupA.or (sl_list.or sl_str)
theorem RepL.cut {ds : List PyData} {vs : List V} (h : RepL K H A ds vs) (lo hi : Option Int) : RepL K H A (cutP ds lo hi) (cutV vs lo hi) := by
  unfold cutP cutV
  rw [h.length]
  exact (h.drop _).take _
theorem cutS_length (z : Str) (lo hi : Option Int) : (cutS z lo hi).length ≤ z.length := by
  show ((z.cps.toList.drop _).take _).toArray.size ≤ _
  rw [List.size_toArray, List.length_take, List.length_drop]
  have : z.cps.toList.length = z.length := by simp [Str.length]
  omega
theorem rs_sl {x z : PyData} {lo hi : Option Int} {vx : V} {Q : VK} (hA : ∀ a, A a → H a ≠ none) (rx : RepS K H A x vx) (hz : oSl x lo hi = some z) (k : ∀ v H', Frm F0 H H' → RepD K H' A z v → Q v H') : rSlX K vx lo hi H Q := by
  unfold oSl at hz
  split at hz
  · cases hz
    obtain ⟨a, vs, e1, t, hl, r⟩ := rx.tup
    refine .inl ⟨a, vs, e1, t.sq, fun hw => ?_, fun _ p hp => ?_⟩
    · have e := r.cut lo hi
      have e' : cutV vs lo hi = vs := by
        unfold cutV
        rw [hw.1, hw.2, List.drop_zero, Nat.sub_zero, List.take_length]
      rw [e'] at e
      exact k _ _ Frm.refl (rep_tup t hl e)
    · exact k _ _ (Frm.new hp) (rep_newT hA hp (Nat.le_trans (cutV_length _ _ _) hl) (r.cut _ _))
  · cases hz
    obtain ⟨a, vs, e1, t, hl, r⟩ := rx.lst
    exact .inr (.inl ⟨a, vs, e1, .inl t, fun p hp => k _ _ (Frm.new hp) (rep_newL hA hp (Nat.le_trans (cutV_length _ _ _) hl) (r.cut _ _))⟩)
  · cases hz
    obtain ⟨e1, hl⟩ := rx.str
    exact .inr (.inr ⟨_, e1, hl, k _ _ Frm.refl (rep_str (Nat.le_trans (cutS_length _ _ _) hl))⟩)
  · cases hz
/-- a part of a slice -/
def asI : PyData → Option (Option Int)
  | .int i => some (some i)
  | _ => none
def pNo : Ev (Option Int) := fun E => some (none, E)
theorem do_none : PO X none (oD X.K io pNo) := po_none.imp fun σ H Q w => by
  obtain ⟨Γ, ad, E, d, E', ok, he, q⟩ := w
  cases he
  exact q _ H Frm.refl ok (Sim.refl E) rfl
theorem do_some (h : PE X a (tD X.K io fa)) : PO X (some a) (oD X.K io (f1 asI fa)) := (po_some h).imp fun σ H Q w => by
  show tD X.K io fa σ H fun x H1 => ∃ i, x = .int i ∧ Q (some i) H1
  refine rd_then (f := fa) (g := fun x E1 => (asI x).map fun z => (z, E1)) (fun _ => rfl) w fun Γ ad E x vx H1 y E1 E2 h1 h2 ok1 fr1 sim1 r1 k => ?_
  obtain ⟨z, hz, e⟩ := Option.map_eq_some_iff.mp h2
  cases e
  cases x with
  | int i => cases hz; exact ⟨i, r1.int, k _ H1 Frm.refl ok1 (Sim.refl _) rfl⟩
  | _ => cases hz
def fSl (fa : Ef) (pl ph : Ev (Option Int)) : Ef := fun E => (fa E).bind fun r => (pl r.2).bind fun l => (ph l.2).bind fun h => (oSl r.1 l.1 h.1).map fun z => (z, h.2)
def fSls (i : Nat) (pl ph : Ev (Option Int)) : Ef := fun E => (ownL i E).bind fun _ => (pl E).bind fun l => (ph l.2).bind fun h => (ownL i h.2).bind fun x => (oSl x l.1 h.1).map fun z => (z, h.2)
variable {lo hi : Option Expr} {pl ph : Ev (Option Int)} {p2 : Pos}
theorem de_sl (he : PE X a (tD X.K io fa)) (hl : PO X lo (oD X.K io pl)) (hh : PO X hi (oD X.K io ph)) : PE X (.Subscript a (.Slice lo hi none p2) pos) (tD X.K io (fSl fa pl ph)) :=
  (pe_slice sl_X he hl hh).imp fun σ H Q w => by
    show tD X.K io fa σ H fun x H1 => oD X.K io pl σ H1 fun l H2 => oD X.K io ph σ H2 fun u H3 => rSlX X.K x l u H3 Q
    refine rd_then (f := fa) (g := fun x E1 => (pl E1).bind fun l => (ph l.2).bind fun h => (oSl x l.1 h.1).map fun z => (z, h.2)) (fun _ => rfl) w fun Γ ad E x vx H1 y E1 E2 h1 h2 ok1 fr1 sim1 r1 k => ?_
    obtain ⟨⟨l, E3⟩, h3, h4⟩ := Option.bind_eq_some_iff.mp h2
    obtain ⟨⟨h, E4⟩, h5, h6⟩ := Option.bind_eq_some_iff.mp h4
    obtain ⟨z, hz, e⟩ := Option.map_eq_some_iff.mp h6
    cases e
    refine ⟨Γ, ad, E1, l, E3, ok1, h3, fun vl H2 fr2 ok2 sim2 r2 => ⟨Γ, ad, E3, h, E4, ok2, h5, fun vh H3 fr3 ok3 sim3 r3 => ?_⟩⟩
    cases r2
    cases r3
    have r1' := (Go.frm fr2 ok1.wa).rep x vx (by rw [sim1.Ao]; exact r1)
    have r1'' := (Go.frm fr3 ok2.wa).rep x vx (by rw [sim2.Ao]; exact r1')
    have sim := sim2.trans sim3
    refine rs_sl (A := Ao Γ io ad E1) (fun a h => ok3.on a (by rw [sim.Ao]; exact h)) (.d (by rw [sim2.Ao] at r1''; exact r1'')) hz fun v H4 fr4 r4 => ?_
    rw [sim2.Wo] at fr3
    exact k v H4 ((fr2.trans' fr3).trans' fr4.of0) (ok3.new fr4) sim r4
theorem de_sls {i : Nat} (he : PE X a (tVar i)) (hl : PO X lo (oD X.K io pl)) (hh : PO X hi (oD X.K io ph)) : PE X (.Subscript a (.Slice lo hi none p2) pos) (tD X.K io (fSls i pl ph)) :=
  (pe_slice sl_X he hl hh).imp fun σ H Q w => by
    obtain ⟨Γ, ad, E, d, E', ok, he, q⟩ := w
    obtain ⟨x0, h0, he⟩ := Option.bind_eq_some_iff.mp he
    obtain ⟨⟨l, E3⟩, h3, h4⟩ := Option.bind_eq_some_iff.mp he
    obtain ⟨⟨h, E4⟩, h5, h6⟩ := Option.bind_eq_some_iff.mp h4
    obtain ⟨x, h7, h8⟩ := Option.bind_eq_some_iff.mp h6
    obtain ⟨z, hz, e⟩ := Option.map_eq_some_iff.mp h8
    cases e
    refine ⟨_, (ownL_rep ok h0).1, Γ, ad, E, l, E3, ok, h3, fun vl H2 fr2 ok2 sim2 r2 => ⟨Γ, ad, E3, h, E4, ok2, h5, fun vh H3 fr3 ok3 sim3 r3 => ?_⟩⟩
    cases r2
    cases r3
    have sim := sim2.trans sim3
    obtain ⟨_, r1⟩ := ownL_rep ok3 h7
    rw [sim.Ao] at r1
    refine rs_sl (A := Ao Γ io ad E) (fun a h => ok3.on a (by rw [sim.Ao]; exact h)) r1 hz fun v H4 fr4 r4 => ?_
    rw [sim2.Wo] at fr3
    exact q v H4 ((fr2.trans' fr3).trans' fr4.of0) (ok3.new fr4) sim r4
/-- the operators of an own list -/
theorem de_bin_l {op : Operator} {r : R2} {g : PyData → PyData → Option PyData} {i : Nat} (ho : OpR X (binaryOp op) r) (hr : RS X.K r g) (ha : PE X a (tVar i)) (hb : PE X b (tD X.K io fb)) :
    PE X (.BinOp a op b pos) (tD X.K io (f2l g i fb)) := (pe_op ho ha hb).imp fun _ _ _ => td2l hr
theorem de_bin_r {op : Operator} {r : R2} {g : PyData → PyData → Option PyData} {i : Nat} (ho : OpR X (binaryOp op) r) (hr : RS X.K r g) (ha : PE X a (tD X.K io fa)) (hb : PE X b (tVar i)) :
    PE X (.BinOp a op b pos) (tD X.K io (f2r g fa i)) := (pe_op ho ha hb).imp fun _ _ _ => td2r hr
theorem de_cmp_l {op : CmpOp} {r : R2} {g : PyData → PyData → Option PyData} {i : Nat} (ho : OpR X (compareOp op) r) (hr : RS X.K r g) (ha : PE X a (tVar i)) (hb : PE X b (tD X.K io fb)) (hm : behindInMarks op b = false) :
    PE X (.Compare a [op] [b] pos) (tD X.K io (f2l g i fb)) := (pe_cmpR ho ha hb hm).imp fun _ _ _ => td2l hr
theorem de_cmp_r {op : CmpOp} {r : R2} {g : PyData → PyData → Option PyData} {i : Nat} (ho : OpR X (compareOp op) r) (hr : RS X.K r g) (ha : PE X a (tD X.K io fa)) (hb : PE X b (tVar i)) (hm : behindInMarks op b = false) :
    PE X (.Compare a [op] [b] pos) (tD X.K io (f2r g fa i)) := (pe_cmpR ho ha hb hm).imp fun _ _ _ => td2r hr
theorem de_ix_l {r : R2} {g : PyData → PyData → Option PyData} {i : Nat} (ho : IxR X r) (hr : RS X.K r g) (ha : PE X a (tVar i)) (hb : PE X b (tD X.K io fb)) (hs : PlainIx b) :
    PE X (.Subscript a b pos) (tD X.K io (f2l g i fb)) := (pe_ix ho ha hb hs).imp fun _ _ _ => td2l hr
end
end DL

namespace DL
open PySem PySem.Spec PyProof.Rows L2

section
variable {X : Cx} {K : PySem.W.Frag} {H : Hp} {A : Addr → Prop} {io : List Nat} {a b c e : Expr} {es rest : List Expr} {fa fb fc : Ef} {fr : Af} {ga gb : Ev Bool} {pos : Pos}
/-! ### built-in functions -/
def oLen : List PyData → Option PyData
  | [.str x] => some (.int x.length)
  | [.tuple xs] => some (.int xs.length)
  | [.list xs] => some (.int xs.length)
  | _ => none
theorem cs_len : CS K (fun xs H Q => ∃ x n, xs = [x] ∧ LenV K x H n ∧ Q (.int n) H) oLen := by
  intro H A ds z vs Q hA rs hz k
  unfold oLen at hz
  split at hz
  · cases hz
    obtain ⟨v, e, r⟩ := rs.one
    obtain ⟨e1, hl⟩ := r.str
    subst e e1
    exact ⟨_, _, rfl, ⟨hl, rfl⟩, k _ _ Frm.refl rep_int⟩
  · cases hz
    obtain ⟨v, e, r⟩ := rs.one
    obtain ⟨p, vs, e1, t, hl, r'⟩ := r.tup
    subst e e1
    exact ⟨_, _, rfl, .inr ⟨_, t.sq, rfl⟩, k _ _ Frm.refl (by rw [r'.length]; exact rep_int)⟩
  · cases hz
    obtain ⟨v, e, r⟩ := rs.one
    obtain ⟨p, vs, e1, t, hl, r'⟩ := r.lst
    subst e e1
    exact ⟨_, _, rfl, .inl ⟨_, .inl t, rfl⟩, k _ _ Frm.refl (by rw [r'.length]; exact rep_int)⟩
  · cases hz
def oAbs : List PyData → Option PyData
  | [.int i] => some (.int (if i < 0 then -i else i))
  | _ => none
theorem cs_abs : CS K (fun xs H Q => ∃ i, xs = [.int i] ∧ Q (.int (if i < 0 then -i else i)) H) oAbs := by
  intro H A ds z vs Q hA rs hz k
  unfold oAbs at hz
  split at hz
  · cases hz
    obtain ⟨v, e, r⟩ := rs.one
    cases r.int
    subst e
    exact ⟨_, rfl, k _ _ Frm.refl rep_int⟩
  · cases hz
def oMax : List PyData → Option PyData
  | [.int i, .int j] => some (.int (if j > i then j else i))
  | _ => none
theorem cs_max : CS K (fun xs H Q => ∃ i j, xs = [.int i, .int j] ∧ Q (.int (if j > i then j else i)) H) oMax := by
  intro H A ds z vs Q hA rs hz k
  unfold oMax at hz
  split at hz
  · cases hz
    obtain ⟨v, u, e, r, r2⟩ := rs.two
    cases r.int
    cases r2.int
    subst e
    exact ⟨_, _, rfl, k _ _ Frm.refl rep_int⟩
  · cases hz
def oMin : List PyData → Option PyData
  | [.int i, .int j] => some (.int (if j < i then j else i))
  | _ => none
theorem cs_min : CS K (fun xs H Q => ∃ i j, xs = [.int i, .int j] ∧ Q (.int (if j < i then j else i)) H) oMin := by
  intro H A ds z vs Q hA rs hz k
  unfold oMin at hz
  split at hz
  · cases hz
    obtain ⟨v, u, e, r, r2⟩ := rs.two
    cases r.int
    cases r2.int
    subst e
    exact ⟨_, _, rfl, k _ _ Frm.refl rep_int⟩
  · cases hz
def oInt : List PyData → Option PyData
  | [.int i] => some (.int i)
  | [.bool b] => some (.int (if b then 1 else 0))
  | _ => none
theorem cs_int : CS K (fun xs H Q => (∃ i, xs = [.int i] ∧ Q (.int i) H) ∨ ∃ k, xs = [.bl k] ∧ Q (.int (if k then 1 else 0)) H) oInt := by
  intro H A ds z vs Q hA rs hz k
  unfold oInt at hz
  split at hz
  · cases hz
    obtain ⟨v, e, r⟩ := rs.one
    cases r.int
    subst e
    exact .inl ⟨_, rfl, k _ _ Frm.refl rep_int⟩
  · cases hz
    obtain ⟨v, e, r⟩ := rs.one
    cases r.bl
    subst e
    exact .inr ⟨_, rfl, k _ _ Frm.refl rep_int⟩
  · cases hz
def oTup : List PyData → Option PyData
  | [.list xs] => some (.tuple xs)
  | [.tuple xs] => some (.tuple xs)
  | _ => none
theorem cs_tup : CS K (fun xs H Q => ∃ p ys, xs = [.ref p] ∧ ((SqL K H p ys ∧ ∀ l, H l = none → Q (.ref l) (upd H l (.tup ys))) ∨ (SqT K H p ys ∧ Q (.ref p) H))) oTup := by
  intro H A ds z vs Q hA rs hz k
  unfold oTup at hz
  split at hz
  · cases hz
    obtain ⟨v, e, r⟩ := rs.one
    obtain ⟨p, vs, e1, t, hl, r'⟩ := r.lst
    subst e e1
    exact ⟨_, _, rfl, .inl ⟨.inl t, fun l hp => k _ _ (Frm.new hp) (rep_newT hA hp hl r')⟩⟩
  · cases hz
    obtain ⟨v, e, r⟩ := rs.one
    obtain ⟨p, vs, e1, t, hl, r'⟩ := r.tup
    subst e e1
    exact ⟨_, _, rfl, .inr ⟨t.sq, k _ _ Frm.refl (rep_tup t hl r')⟩⟩
  · cases hz
def oList : List PyData → Option PyData
  | [.list xs] => some (.list xs)
  | [.tuple xs] => some (.list xs)
  | _ => none
theorem cs_list : CS K (fun xs H Q => ∃ p ys, xs = [.ref p] ∧ (SqL K H p ys ∨ SqT K H p ys) ∧ ∀ l, H l = none → Q (.ref l) (upd H l (.lst ys))) oList := by
  intro H A ds z vs Q hA rs hz k
  unfold oList at hz
  split at hz
  · cases hz
    obtain ⟨v, e, r⟩ := rs.one
    obtain ⟨p, vs, e1, t, hl, r'⟩ := r.lst
    subst e e1
    exact ⟨_, _, rfl, .inl (.inl t), fun l hp => k _ _ (Frm.new hp) (rep_newL hA hp hl r')⟩
  · cases hz
    obtain ⟨v, e, r⟩ := rs.one
    obtain ⟨p, vs, e1, t, hl, r'⟩ := r.tup
    subst e e1
    exact ⟨_, _, rfl, .inr t.sq, fun l hp => k _ _ (Frm.new hp) (rep_newL hA hp hl r')⟩
  · cases hz
def asB : PyData → Option Bool
  | .bool b => some b
  | _ => none
def allB : List PyData → Option (List Bool)
  | [] => some []
  | d :: ds => (asB d).bind fun b => (allB ds).map fun bs => b :: bs
theorem allB_rep : ∀ {ds : List PyData} {vs : List V} {bs : List Bool}, RepL K H A ds vs → allB ds = some bs → vs = bs.map V.bl
  | [], vs, bs, r, h => by cases h; unfold RepL at r; exact r
  | d :: ds, vs, bs, r, h => by
    obtain ⟨b, h1, h2⟩ := Option.bind_eq_some_iff.mp h
    obtain ⟨bs', h3, h4⟩ := Option.map_eq_some_iff.mp h2
    subst h4
    unfold RepL at r
    obtain ⟨v, r', e, r1, r2⟩ := r
    subst e
    cases d with
    | bool b' => cases h1; cases r1.bl; rw [allB_rep r2 h3] <;> rfl
    | _ => cases h1
def oAll : List PyData → Option PyData
  | [.list xs] => (allB xs).map fun bs => .bool (bs.all id)
  | _ => none
def oAny : List PyData → Option PyData
  | [.list xs] => (allB xs).map fun bs => .bool (bs.any id)
  | _ => none
theorem cs_all : CS K (rAll K) oAll := by
  intro H A ds z vs Q hA rs hz k
  unfold oAll at hz
  split at hz
  · obtain ⟨bs, h1, h2⟩ := Option.map_eq_some_iff.mp hz
    subst h2
    obtain ⟨v, e, r⟩ := rs.one
    obtain ⟨p, vs, e1, t, hl, r'⟩ := r.lst
    subst e e1
    exact ⟨_, bs, rfl, .inl (by rw [← allB_rep r' h1]; exact t), k _ _ Frm.refl rep_bl⟩
  · cases hz
theorem cs_any : CS K (rAny K) oAny := by
  intro H A ds z vs Q hA rs hz k
  unfold oAny at hz
  split at hz
  · obtain ⟨bs, h1, h2⟩ := Option.map_eq_some_iff.mp hz
    subst h2
    obtain ⟨v, e, r⟩ := rs.one
    obtain ⟨p, vs, e1, t, hl, r'⟩ := r.lst
    subst e e1
    exact ⟨_, bs, rfl, .inl (by rw [← allB_rep r' h1]; exact t), k _ _ Frm.refl rep_bl⟩
  · cases hz
/-! ### isinstance -/
def pyTy : PyData → String
  | .none => "NoneType"
  | .bool _ => "bool"
  | .int _ => "int"
  | .str _ => "str"
  | .list _ => "list"
  | .tuple _ => "tuple"
  | .dict _ => "dict"
theorem RepD.ty {d : PyData} {v : V} (h : RepD K H A d v) : TyX K H v (.type (pyTy d)) := by
  cases d with
  | none => cases h.non; exact .base .non
  | bool b => cases h.bl; exact .base (.bl b)
  | int b => cases h.int; exact .base (.int b)
  | str b => obtain ⟨e, _⟩ := h.str; subst e; exact .base (.str b)
  | tuple xs =>
    obtain ⟨a, vs, e, t, _⟩ := h.tup
    subst e
    rcases t with ⟨_, t | ⟨o, t⟩⟩ | (t | ⟨o, t⟩) | ⟨o, its, n, t, c, _⟩
    · exact .base (.tup t)
    · exact .fTuple t
    · cases t
    · cases t
    · exact .kTuple t c
  | list xs =>
    obtain ⟨a, vs, e, ⟨_, t | ⟨o, t⟩⟩, _⟩ := h.lst
    · subst e; exact .base (.lst t)
    · subst e; exact .base (.frz t)
  | dict xs => obtain ⟨a, e, _, _, t⟩ := h.dic; subst e; exact .base (.dK t)
def isTup : PyData → Bool
  | .tuple _ => true
  | _ => false
def isStr : PyData → Bool
  | .str _ => true
  | _ => false
def isBool : PyData → Bool
  | .bool _ => true
  | _ => false
def isInt : PyData → Bool
  | .bool _ => true
  | .int _ => true
  | _ => false
def isList : PyData → Bool
  | .list _ => true
  | _ => false
def isDict : PyData → Bool
  | .dict _ => true
  | _ => false
theorem kb_tup : ∀ d, kitB (pyTy d) "tuple" = some (isTup d)
  | .none => by decide +kernel
  | .bool _ => by show kitB "bool" "tuple" = some false; decide +kernel
  | .int _ => by show kitB "int" "tuple" = some false; decide +kernel
  | .str _ => by show kitB "str" "tuple" = some false; decide +kernel
  | .list _ => by show kitB "list" "tuple" = some false; decide +kernel
  | .tuple _ => by show kitB "tuple" "tuple" = some true; decide +kernel
  | .dict _ => by show kitB "dict" "tuple" = some false; decide +kernel
theorem kb_str : ∀ d, kitB (pyTy d) "str" = some (isStr d)
  | .none => by decide +kernel
  | .bool _ => by show kitB "bool" "str" = some false; decide +kernel
  | .int _ => by show kitB "int" "str" = some false; decide +kernel
  | .str _ => by show kitB "str" "str" = some true; decide +kernel
  | .list _ => by show kitB "list" "str" = some false; decide +kernel
  | .tuple _ => by show kitB "tuple" "str" = some false; decide +kernel
  | .dict _ => by show kitB "dict" "str" = some false; decide +kernel
theorem kb_bool : ∀ d, kitB (pyTy d) "bool" = some (isBool d)
  | .none => by decide +kernel
  | .bool _ => by show kitB "bool" "bool" = some true; decide +kernel
  | .int _ => by show kitB "int" "bool" = some false; decide +kernel
  | .str _ => by show kitB "str" "bool" = some false; decide +kernel
  | .list _ => by show kitB "list" "bool" = some false; decide +kernel
  | .tuple _ => by show kitB "tuple" "bool" = some false; decide +kernel
  | .dict _ => by show kitB "dict" "bool" = some false; decide +kernel
theorem kb_int : ∀ d, kitB (pyTy d) "int" = some (isInt d)
  | .none => by decide +kernel
  | .bool _ => by show kitB "bool" "int" = some true; decide +kernel
  | .int _ => by show kitB "int" "int" = some true; decide +kernel
  | .str _ => by show kitB "str" "int" = some false; decide +kernel
  | .list _ => by show kitB "list" "int" = some false; decide +kernel
  | .tuple _ => by show kitB "tuple" "int" = some false; decide +kernel
  | .dict _ => by show kitB "dict" "int" = some false; decide +kernel
theorem kb_list : ∀ d, kitB (pyTy d) "list" = some (isList d)
  | .none => by decide +kernel
  | .bool _ => by show kitB "bool" "list" = some false; decide +kernel
  | .int _ => by show kitB "int" "list" = some false; decide +kernel
  | .str _ => by show kitB "str" "list" = some false; decide +kernel
  | .list _ => by show kitB "list" "list" = some true; decide +kernel
  | .tuple _ => by show kitB "tuple" "list" = some false; decide +kernel
  | .dict _ => by show kitB "dict" "list" = some false; decide +kernel
def oIs (p : PyData → Bool) (x : PyData) : Option PyData := some (.bool (p x))
theorem de_isi {T : String} {q : PyData → Bool} {p p2 : Pos} {x : Str} (kb : ∀ d, kitB (pyTy d) T = some (q d)) (hg : Gl X "isinstance") (hm : X.mg "isinstance" = none) (ha : PE X a (tD X.K io fa)) (hT : PE X (.Name x p2) (tC (.ty T)))
    (hs : starEach [a, .Name x p2] X.env = (false, eval a X.env) :: starEach [.Name x p2] X.env := by rfl) (hpl : (backTo pos (starEach [.Name x p2] X.env)).any (·.1) = false := by rfl) :
    PE X (.Call (.Name "isinstance" p) [a, .Name x p2] [] pos) (tD X.K io (f1 (oIs q) fa)) :=
  (pe_callB call_isi hg hm boot_isinstance (pa_cons ha (pa_cons hT pa_nil) hs) (by decide) (by decide) hs hpl).imp fun σ H Q w => by
    show tD X.K io fa σ H fun x H1 => rIsi X.K [x, .ty T] H1 Q
    refine td1 (r := fun x H1 Q => rIsi X.K [x, .ty T] H1 Q) ?_ w
    intro H A x z vx Q hA rx hz k
    cases hz
    cases rx with
    | d h => exact ⟨vx, _, _, _, _, rfl, .ty T, h.ty, kit_ty (kb x), k _ _ Frm.refl rep_bl⟩
    | @l p xs vs t _ _ => exact ⟨_, _, _, _, _, rfl, .ty T, .base (t.elim (fun t => .lst t) fun ⟨o, t⟩ => .frz t), kit_ty (kb (.list xs)), k _ _ Frm.refl rep_bl⟩
/-! ### displays -/
def fTup (fr : Af) : Ef := fB (fun ds => some (.tuple ds)) fr
def fLst (fr : Af) : Ef := fB (fun ds => some (.list ds)) fr
theorem RepG.repL {ad : Nat → Addr} : ∀ {gs : List G} {ds : List PyData} {vs : List V}, gs = ds.map G.v → RepG ad K H A gs vs → RepL K H A ds vs
  | _, [], vs, e, r => by subst e; unfold RepG at r; subst r; exact repL_nil
  | _, d :: ds, vs, e, r => by
    subst e
    obtain ⟨v, r', e, r1, r2⟩ := r
    subst e
    exact repL_cons r1 (RepG.repL rfl r2)
/-- plain things alone -/
def onlyV : List G → Option (List PyData)
  | [] => some []
  | .v d :: gs => (onlyV gs).map fun ds => d :: ds
  | .s _ :: _ => none
theorem onlyV_map : ∀ {gs : List G} {ds : List PyData}, onlyV gs = some ds → gs = ds.map G.v
  | [], ds, h => by cases h; rfl
  | .v d :: gs, ds, h => by
    obtain ⟨ds', h1, h2⟩ := Option.map_eq_some_iff.mp h
    subst h2
    rw [onlyV_map h1] <;> rfl
  | .s _ :: _, _, h => by cases h
def fDisp (mk : List PyData → PyData) (fr : Af) : Ef := fun E => (fr E).bind fun r => (onlyV r.1).bind fun ds => if ds.length ≤ sizeLine then some (mk ds, r.2) else none
theorem de_tup {x1} (h : PA X es (aD X.K io fr)) : PE X (.Tuple es x1 pos) (tD X.K io (fDisp .tuple fr)) := (pe_tup h).imp fun σ H Q w => by
  show aD X.K io fr σ H fun xs H1 => xs.length ≤ sizeLine ∧ ∀ p, H1 p = none → Q (.ref p) (upd H1 p (.tup xs))
  refine rd_then (f := fr) (g := fun x E1 => (onlyV x).bind fun ds => if ds.length ≤ sizeLine then some (PyData.tuple ds, E1) else none) (fun _ => rfl) w fun Γ ad E x vx H1 y E1 E2 h1 h2 ok1 fr1 sim1 r1 k => ?_
  obtain ⟨ds, h3, h4⟩ := Option.bind_eq_some_iff.mp h2
  split at h4
  · rename_i hl
    cases h4
    have r := RepG.repL (onlyV_map h3) r1
    have hz : vx.length ≤ sizeLine := by rw [r.length]; exact hl
    refine ⟨hz, fun p hp => ?_⟩
    exact k _ _ (Frm.new hp).of0 (ok1.new (Frm.new hp)) (Sim.refl _) (by rw [sim1.Ao]; exact rep_newT (fun a h => ok1.on a (by rw [sim1.Ao]; exact h)) hp hz r)
  · cases h4
theorem de_lst (h : PA X es (aD X.K io fr)) : PE X (.List es pos) (tD X.K io (fDisp .list fr)) := (pe_lst h).imp fun σ H Q w => by
  show aD X.K io fr σ H fun xs H1 => xs.length ≤ sizeLine ∧ ∀ p, H1 p = none → Q (.ref p) (upd H1 p (.lst xs))
  refine rd_then (f := fr) (g := fun x E1 => (onlyV x).bind fun ds => if ds.length ≤ sizeLine then some (PyData.list ds, E1) else none) (fun _ => rfl) w fun Γ ad E x vx H1 y E1 E2 h1 h2 ok1 fr1 sim1 r1 k => ?_
  obtain ⟨ds, h3, h4⟩ := Option.bind_eq_some_iff.mp h2
  split at h4
  · rename_i hl
    cases h4
    have r := RepG.repL (onlyV_map h3) r1
    have hz : vx.length ≤ sizeLine := by rw [r.length]; exact hl
    refine ⟨hz, fun p hp => ?_⟩
    exact k _ _ (Frm.new hp).of0 (ok1.new (Frm.new hp)) (Sim.refl _) (by rw [sim1.Ao]; exact rep_newL (fun a h => ok1.on a (by rw [sim1.Ao]; exact h)) hp hz r)
  · cases h4
theorem de_emp {pos : Pos} (h : PE X (.Dict [] [] pos) (fun _ H Q => ∀ d, H d = none → Q (.ref d) (upd H d (.dK [])))) : PE X (.Dict [] [] pos) (tD X.K io (fC (.dict []))) := h.imp fun σ H Q w => by
  obtain ⟨Γ, ad, E, d', E', ok, he, q⟩ := w
  cases he
  intro p hp
  exact q _ _ (Frm.new hp).of0 (ok.new (Frm.new hp)) (Sim.refl E) (by unfold RepD; exact ⟨p, rfl, rfl, fun z => ok.on p z hp, upd_same⟩)
/-! ### truth, and, or, not, if -/
def truD : PyData → Option Bool
  | .none => some false
  | .bool b => some b
  | .int i => some (i != 0)
  | .str x => some ((x.length : Int) != 0)
  | .tuple xs => some (!xs.isEmpty)
  | .list xs => some (!xs.isEmpty)
  | .dict _ => some false
theorem isEmpty_len {α β : Type} {xs : List α} {ys : List β} (h : xs.length = ys.length) : xs.isEmpty = ys.isEmpty := by
  cases xs <;> cases ys <;> simp at h <;> rfl
theorem RepS.tru {d : PyData} {v : V} {k : Bool} (h : RepS K H A d v) (e : truD d = some k) : TruV K v H k := by
  cases d with
  | none => cases h.non; cases e; rfl
  | bool b => cases h.bl; cases e; rfl
  | int b => cases h.int; cases e; rfl
  | str b => obtain ⟨e1, hl⟩ := h.str; subst e1; cases e; exact ⟨hl, rfl⟩
  | tuple xs => obtain ⟨a, vs, e1, t, _, r⟩ := h.tup; subst e1; cases e; exact .inr (.inl ⟨vs, t.sq, by rw [isEmpty_len r.length]⟩)
  | list xs => obtain ⟨a, vs, e1, t, _, r⟩ := h.lst; subst e1; cases e; exact .inl ⟨vs, .inl t, by rw [isEmpty_len r.length]⟩
  | dict xs =>
    cases h with
    | d h => obtain ⟨a, e1, _, _, t⟩ := h.dic; subst e1; cases e; exact .inr (.inr ⟨[], t, rfl⟩)
theorem dt_val (ha : PE X a (tD X.K io fa)) (he : ∀ whole, isTrue a X.env whole = (do let v ← whole; standAt a.pos; holding [v] (truthy v)) := by intro _; rfl) : PT X a (cD X.K io (f1 truD fa)) :=
  (pt_truth ha he).imp fun σ H Q w => by
    show tD X.K io fa σ H fun x H' => ∃ k, TruV X.K x H' k ∧ Q k H'
    refine rd_then (f := fa) (g := fun x E1 => (truD x).map fun z => (z, E1)) (fun _ => rfl) w fun Γ ad E x vx H1 y E1 E2 h1 h2 ok1 fr1 sim1 r1 k => ?_
    obtain ⟨z, hz, e⟩ := Option.map_eq_some_iff.mp h2
    cases e
    exact ⟨_, RepS.tru (.d r1) hz, k _ H1 Frm.refl ok1 (Sim.refl _) rfl⟩
/-- a comparison as a test -/
theorem td2t {r : R2} {g : PyData → PyData → Option PyData} (hr : RS X.K r g) {σ : L2.St} {H : Hp} {Q : Bool → Hp → Prop} (w : cD X.K io (f1 asB (f2 g fa fb)) σ H Q) : tTest (tOp r (tD X.K io fa) (tD X.K io fb)) σ H Q := by
  refine td2 hr ?_
  refine rd_then (f := f2 g fa fb) (g := fun x E1 => (asB x).map fun z => (z, E1)) (fun _ => rfl) w fun Γ ad E x vx H1 y E1 E2 h1 h2 ok1 fr1 sim1 r1 k => ?_
  obtain ⟨z, hz, e⟩ := Option.map_eq_some_iff.mp h2
  cases e
  cases x with
  | bool b => cases hz; exact ⟨_, r1.bl, k _ H1 Frm.refl ok1 (Sim.refl _) rfl⟩
  | _ => cases hz
theorem dt_cmp {op : CmpOp} {r : R2} {g : PyData → PyData → Option PyData} (ho : OpR X (compareOp op) r) (hr : RS X.K r g) (ha : PE X a (tD X.K io fa)) (hb : PE X b (tD X.K io fb)) (hm : behindInMarks op b = false) :
    PT X (.Compare a [op] [b] pos) (cD X.K io (f1 asB (f2 g fa fb))) := (pt_cmpR ho ha hb hm).imp fun _ _ _ => td2t hr
theorem dt_of {h : Ef} {t : TE} (ht : ∀ σ H Q, tD X.K io h σ H Q → t σ H Q) {σ : L2.St} {H : Hp} {Q : Bool → Hp → Prop} (w : cD X.K io (f1 asB h) σ H Q) : t σ H fun x H' => ∃ k, x = .bl k ∧ Q k H' := by
  refine ht _ _ _ ?_
  refine rd_then (f := h) (g := fun x E1 => (asB x).map fun z => (z, E1)) (fun _ => rfl) w fun Γ ad E x vx H1 y E1 E2 h1 h2 ok1 fr1 sim1 r1 k => ?_
  obtain ⟨z, hz, e⟩ := Option.map_eq_some_iff.mp h2
  cases e
  cases x with
  | bool b => cases hz; exact ⟨_, r1.bl, k _ H1 Frm.refl ok1 (Sim.refl _) rfl⟩
  | _ => cases hz
theorem dt_cmp_l {op : CmpOp} {r : R2} {g : PyData → PyData → Option PyData} {i : Nat} (ho : OpR X (compareOp op) r) (hr : RS X.K r g) (ha : PE X a (tVar i)) (hb : PE X b (tD X.K io fb)) (hm : behindInMarks op b = false) :
    PT X (.Compare a [op] [b] pos) (cD X.K io (f1 asB (f2l g i fb))) := (pt_cmpR ho ha hb hm).imp fun _ _ _ => dt_of fun _ _ _ => td2l hr
theorem dt_cmp_r {op : CmpOp} {r : R2} {g : PyData → PyData → Option PyData} {i : Nat} (ho : OpR X (compareOp op) r) (hr : RS X.K r g) (ha : PE X a (tD X.K io fa)) (hb : PE X b (tVar i)) (hm : behindInMarks op b = false) :
    PT X (.Compare a [op] [b] pos) (cD X.K io (f1 asB (f2r g fa i))) := (pt_cmpR ho ha hb hm).imp fun _ _ _ => dt_of fun _ _ _ => td2r hr
theorem dt_isN {j : Nat} {p : Pos} (ha : PE X a (tD X.K io fa)) : PT X (.Compare a [.Is] [.Constant .none j p] pos) (cD X.K io (f1 asB (f1 oIsN fa))) := (pt_cmp (pc_isN ha)).imp fun _ _ _ => dt_of (t := tIsN (tD X.K io fa)) fun _ _ _ => td1 us_isN
theorem dt_notN {j : Nat} {p : Pos} (ha : PE X a (tD X.K io fa)) : PT X (.Compare a [.IsNot] [.Constant .none j p] pos) (cD X.K io (f1 asB (f1 oNotN fa))) := (pt_cmp (pc_notN ha)).imp fun _ _ _ => dt_of (t := tNotN (tD X.K io fa)) fun _ _ _ => td1 us_notN
/-- a < b < c -/
def fChain (g g' : PyData → PyData → Option PyData) (fa fb fc : Ef) : Ef := fun E => (fa E).bind fun r => (fb r.2).bind fun s => ((g r.1 s.1).bind asB).bind fun k => if k then (fc s.2).bind fun t => (g' s.1 t.1).map fun z => (z, t.2) else some (.bool false, s.2)
theorem dt_not (ha : PT X a (cD X.K io ga)) : PT X (.UnaryOp .Not a pos) (cD X.K io (f1 (fun c => some (!c)) ga)) := (pt_not ha).imp fun σ H Q w => by
  show cD X.K io ga σ H fun c H1 => Q (!c) H1
  refine rd_then (f := ga) (g := fun x E1 => some (!x, E1)) (fun _ => rfl) w fun Γ ad E x vx H1 y E1 E2 h1 h2 ok1 fr1 sim1 r1 k => ?_
  cases h2
  cases r1
  exact k _ H1 Frm.refl ok1 (Sim.refl _) rfl
def fAnd (ga gb : Ev Bool) : Ev Bool := fun E => (ga E).bind fun r => if r.1 = true then gb r.2 else some (false, r.2)
def fOr (ga gb : Ev Bool) : Ev Bool := fun E => (ga E).bind fun r => if r.1 = true then some (true, r.2) else gb r.2
theorem dw_and1 (ha : PT X a (cD X.K io ga)) : PW X (.BoolOp .And [a] pos) (cD X.K io ga) := pw_and1 ha
theorem dw_or1 (ha : PT X a (cD X.K io ga)) : PW X (.BoolOp .Or [a] pos) (cD X.K io ga) := pw_or1 ha
theorem dw_and (ha : PT X a (cD X.K io ga)) (hb : PW X (.BoolOp .And (b :: rest) pos) (cD X.K io gb)) : PW X (.BoolOp .And (a :: b :: rest) pos) (cD X.K io (fAnd ga gb)) := (pw_and ha hb).imp fun σ H Q w => by
  show cD X.K io ga σ H fun c H1 => if c = true then cD X.K io gb σ H1 Q else Q false H1
  refine rd_then (f := ga) (g := fun x E1 => if x = true then gb E1 else some (false, E1)) (fun _ => rfl) w fun Γ ad E x vx H1 y E1 E2 h1 h2 ok1 fr1 sim1 r1 k => ?_
  cases r1
  cases x with
  | true => exact ⟨Γ, ad, E1, y, E2, ok1, h2, fun v H' f ok s r => k v H' f ok s r⟩
  | false => cases h2; exact k _ H1 Frm.refl ok1 (Sim.refl _) rfl
theorem dw_or (ha : PT X a (cD X.K io ga)) (hb : PW X (.BoolOp .Or (b :: rest) pos) (cD X.K io gb)) : PW X (.BoolOp .Or (a :: b :: rest) pos) (cD X.K io (fOr ga gb)) := (pw_or ha hb).imp fun σ H Q w => by
  show cD X.K io ga σ H fun c H1 => if c = true then Q true H1 else cD X.K io gb σ H1 Q
  refine rd_then (f := ga) (g := fun x E1 => if x = true then some (true, E1) else gb E1) (fun _ => rfl) w fun Γ ad E x vx H1 y E1 E2 h1 h2 ok1 fr1 sim1 r1 k => ?_
  cases r1
  cases x with
  | true => cases h2; exact k _ H1 Frm.refl ok1 (Sim.refl _) rfl
  | false => exact ⟨Γ, ad, E1, y, E2, ok1, h2, fun v H' f ok s r => k v H' f ok s r⟩
def fAndV (fa fb : Ef) : Ef := fun E => (fa E).bind fun r => (truD r.1).bind fun k => if k = true then fb r.2 else some r
def fOrV (fa fb : Ef) : Ef := fun E => (fa E).bind fun r => (truD r.1).bind fun k => if k = true then some r else fb r.2
theorem de_one {op} (h : PE X a (tD X.K io fa)) : PE X (.BoolOp op [a] pos) (tD X.K io fa) := pe_one h
theorem de_and (ha : PE X a (tD X.K io fa)) (hb : PE X (.BoolOp .And (b :: rest) pos) (tD X.K io fb)) : PE X (.BoolOp .And (a :: b :: rest) pos) (tD X.K io (fAndV fa fb)) := (pe_andT ha hb).imp fun σ H Q w => by
  show tD X.K io fa σ H fun x H1 => ∃ k, TruV X.K x H1 k ∧ if k = true then tD X.K io fb σ H1 Q else Q x H1
  refine rd_then (f := fa) (g := fun x E1 => (truD x).bind fun k => if k = true then fb E1 else some (x, E1)) (fun _ => rfl) w fun Γ ad E x vx H1 y E1 E2 h1 h2 ok1 fr1 sim1 r1 k => ?_
  obtain ⟨c, hc, h3⟩ := Option.bind_eq_some_iff.mp h2
  refine ⟨c, RepS.tru (.d r1) hc, ?_⟩
  cases c with
  | true => exact ⟨Γ, ad, E1, y, E2, ok1, h3, fun v H' f ok s r => k v H' f ok s r⟩
  | false => cases h3; exact k _ H1 Frm.refl ok1 (Sim.refl _) (by rw [sim1.Ao]; exact r1)
theorem de_or (ha : PE X a (tD X.K io fa)) (hb : PE X (.BoolOp .Or (b :: rest) pos) (tD X.K io fb)) : PE X (.BoolOp .Or (a :: b :: rest) pos) (tD X.K io (fOrV fa fb)) := (pe_orT ha hb).imp fun σ H Q w => by
  show tD X.K io fa σ H fun x H1 => ∃ k, TruV X.K x H1 k ∧ if k = true then Q x H1 else tD X.K io fb σ H1 Q
  refine rd_then (f := fa) (g := fun x E1 => (truD x).bind fun k => if k = true then some (x, E1) else fb E1) (fun _ => rfl) w fun Γ ad E x vx H1 y E1 E2 h1 h2 ok1 fr1 sim1 r1 k => ?_
  obtain ⟨c, hc, h3⟩ := Option.bind_eq_some_iff.mp h2
  refine ⟨c, RepS.tru (.d r1) hc, ?_⟩
  cases c with
  | false => exact ⟨Γ, ad, E1, y, E2, ok1, h3, fun v H' f ok s r => k v H' f ok s r⟩
  | true => cases h3; exact k _ H1 Frm.refl ok1 (Sim.refl _) (by rw [sim1.Ao]; exact r1)
theorem de_not (ha : PE X a (tD X.K io fa)) : PE X (.UnaryOp .Not a pos) (tD X.K io (f1 (fun x => (truD x).map fun k => .bool (!k)) fa)) := (pe_notT ha).imp fun σ H Q w => by
  show tD X.K io fa σ H fun x H1 => ∃ k, TruV X.K x H1 k ∧ Q (.bl (!k)) H1
  refine td1 (r := fun x H1 Q => ∃ k, TruV X.K x H1 k ∧ Q (.bl (!k)) H1) ?_ w
  intro H A x z vx Q hA rx hz k
  obtain ⟨c, hc, e⟩ := Option.map_eq_some_iff.mp hz
  subst e
  exact ⟨c, rx.tru hc, k _ _ Frm.refl rep_bl⟩
def fIf (gc : Ev Bool) (fa fb : Ef) : Ef := fun E => (gc E).bind fun r => if r.1 = true then fa r.2 else fb r.2
theorem de_if (hc : PT X c (cD X.K io ga)) (ha : PE X a (tD X.K io fa)) (hb : PE X b (tD X.K io fb)) : PE X (.IfExp c a b pos) (tD X.K io (fIf ga fa fb)) := (pe_ifExp hc ha hb).imp fun σ H Q w => by
  show cD X.K io ga σ H fun c H1 => if c = true then tD X.K io fa σ H1 Q else tD X.K io fb σ H1 Q
  refine rd_then (f := ga) (g := fun x E1 => if x = true then fa E1 else fb E1) (fun _ => rfl) w fun Γ ad E x vx H1 y E1 E2 h1 h2 ok1 fr1 sim1 r1 k => ?_
  cases r1
  cases x with
  | true => exact ⟨Γ, ad, E1, y, E2, ok1, h2, fun v H' f ok s r => k v H' f ok s r⟩
  | false => exact ⟨Γ, ad, E1, y, E2, ok1, h2, fun v H' f ok s r => k v H' f ok s r⟩
end
end DL

namespace DL
open PySem PySem.Spec PyProof.Rows L2

/-! ### targets: which slot is given what -/
def setE (E : Env') : List (Nat × PyData) → Env'
  | [] => E
  | p :: ps => setE (E.set p.1 (B.v p.2)) ps
def setS (σ : L2.St) : List (Nat × V) → L2.St
  | [] => σ
  | p :: ps => setS (σ.set p.1 (some p.2)) ps
def SetR (K : PySem.W.Frag) (H : Hp) (A : Addr → Prop) : List (Nat × PyData) → List (Nat × V) → Prop
  | [], ws => ws = []
  | p :: ps, ws => ∃ v r, ws = (p.1, v) :: r ∧ RepD K H A p.2 v ∧ SetR K H A ps r
theorem SetR.append {K : PySem.W.Frag} {H : Hp} {A : Addr → Prop} : ∀ {ps qs : List (Nat × PyData)} {ws us : List (Nat × V)}, SetR K H A ps ws → SetR K H A qs us → SetR K H A (ps ++ qs) (ws ++ us)
  | [], _, _, _, h, h' => by unfold SetR at h; subst h; exact h'
  | p :: ps, qs, ws, us, h, h' => by
    obtain ⟨v, r, e, h1, h2⟩ := h
    subst e
    exact ⟨v, r ++ us, rfl, h1, SetR.append h2 h'⟩
theorem setS_append (σ : L2.St) : ∀ (ps qs : List (Nat × V)), setS σ (ps ++ qs) = setS (setS σ ps) qs
  | [], _ => rfl
  | p :: ps, qs => setS_append _ ps qs
abbrev Tf := PyData → Option (List (Nat × PyData))
def gD (K : PySem.W.Frag) (τ : Tf) : TG := fun v σ H Q => ∃ A d as, RepD K H A d v ∧ τ d = some as ∧ ∀ ws, SetR K H A as ws → Q (setS σ ws) H
def gsD (K : PySem.W.Frag) (τ : List PyData → Option (List (Nat × PyData))) : TGs := fun vs σ H Q => ∃ A ds as, RepL K H A ds vs ∧ τ ds = some as ∧ ∀ ws, SetR K H A as ws → Q (setS σ ws) H
def τN (i : Nat) : Tf := fun d => some [(i, d)]
def τNil : List PyData → Option (List (Nat × PyData))
  | [] => some []
  | _ => none
def τCons (t : Tf) (u : List PyData → Option (List (Nat × PyData))) : List PyData → Option (List (Nat × PyData))
  | d :: ds => (t d).bind fun a => (u ds).map fun b => a ++ b
  | _ => none
def τT (n : Nat) (u : List PyData → Option (List (Nat × PyData))) : Tf
  | .tuple ds => if ds.length = n then u ds else none
  | _ => none
theorem _root_.L2.PG.imp {X : Cx} {e : Expr} {t t' : TG} (h : PG X e t) (k : ∀ v σ H Q, t' v σ H Q → t v σ H Q) : PG X e t' := ⟨fun pins s σ H v u Q I r w => h.run pins s σ H v u Q I r (k v σ H Q w)⟩
theorem _root_.L2.PGs.imp {X : Cx} {e : List Expr} {t t' : TGs} (h : PGs X e t) (k : ∀ v σ H Q, t' v σ H Q → t v σ H Q) : PGs X e t' := ⟨fun pins s σ H v u Q I r w => h.run pins s σ H v u Q I r (k v σ H Q w)⟩
section
variable {X : Cx} {K : PySem.W.Frag} {io : List Nat} {a b c e : Expr} {es : List Expr} {fa fb fc : Ef} {fr : Af} {ga gb : Ev Bool} {pos : Pos}
theorem dg_name {i : Nat} {x : Str} (h : PG X (.Name x pos) (gName i)) : PG X (.Name x pos) (gD X.K (τN i)) := h.imp fun v σ H Q w => by
  obtain ⟨A, d, as, r, e, q⟩ := w
  cases e
  exact q [(i, v)] ⟨v, [], rfl, r, by unfold SetR; rfl⟩
theorem dg_nil : PGs X [] (gsD X.K τNil) := pgs_nil.imp fun vs σ H Q w => by
  obtain ⟨A, d, as, r, e, q⟩ := w
  cases d with
  | nil => cases e; unfold RepL at r; exact ⟨r, q [] (by unfold SetR; rfl)⟩
  | cons d ds => cases e
theorem dg_cons {t : Tf} {u : List PyData → Option (List (Nat × PyData))} (h1 : PG X e (gD X.K t)) (h2 : PGs X es (gsD X.K u))
    (hs : (assignEach (e :: es) X.env).map (·.2) = assign e X.env :: (assignEach es X.env).map (·.2) := by rfl) : PGs X (e :: es) (gsD X.K (τCons t u)) := (pgs_cons h1 h2 hs).imp fun vs σ H Q w => by
  obtain ⟨A, ds, as, r, e, q⟩ := w
  cases ds with
  | nil => cases e
  | cons d ds =>
    obtain ⟨x, h3, h4⟩ := Option.bind_eq_some_iff.mp e
    obtain ⟨y, h5, h6⟩ := Option.map_eq_some_iff.mp h4
    subst h6
    unfold RepL at r
    obtain ⟨v, r', e1, r1, r2⟩ := r
    refine ⟨v, r', e1, A, d, x, r1, h3, fun ws hw => ⟨A, ds, y, r2, h5, fun us hu => ?_⟩⟩
    rw [← setS_append]
    exact q _ (hw.append hu)
theorem dg_tup {k : Nat} {u : List PyData → Option (List (Nat × PyData))} {n : Nat} (hc : X.calm = true) (h : PGs X es (gsD X.K u))
    (hn : (assignEach es X.env).length = n := by rfl) (hst : (assignEach es X.env).findIdx? (·.1) = none := by rfl) : PG X (.Tuple es k pos) (gD X.K (τT n u)) := (pg_tup hc h hn hst).imp fun v σ H Q w => by
  obtain ⟨A, d, as, r, e, q⟩ := w
  unfold τT at e
  split at e
  · split at e
    · rename_i hl
      obtain ⟨p, vs, e1, t, _, r'⟩ := r.tup
      exact ⟨p, vs, e1, t.sq, by rw [r'.length]; exact hl, A, _, as, r', e, q⟩
    · cases e
  · cases e
end

/-! ### statements -/
inductive O where
  | nx (E : Env') | rt (d : PyData) (E : Env') | bk (E : Env') | ct (E : Env')
abbrev Sf := Env' → Option O
structure Step (Γ : Gm) (io : List Nat) (ad : Nat → Addr) (E : Env') (H : Hp) (ad' : Nat → Addr) (E' : Env') (H' : Hp) : Prop where
  fr : Frm (Wo Γ io ad E) H H'
  own : ∀ a, Own io ad' E' a → Own io ad E a ∨ H a = none
  io : ∀ i ∈ io, ad' i = ad i
theorem frm_none {W : Addr → Prop} {H H' : Hp} (f : Frm W H H') {a : Addr} (h : H' a = none) : H a = none := by
  cases q : H a with
  | none => rfl
  | some o => exact absurd h (f.on a (by rw [q]; exact fun z => nomatch z))
theorem Step.trans {Γ : Gm} {io : List Nat} {ad ad1 ad2 : Nat → Addr} {E E1 E2 : Env'} {H H1 H2 : Hp} (a : Step Γ io ad E H ad1 E1 H1) (b : Step Γ io ad1 E1 H1 ad2 E2 H2) : Step Γ io ad E H ad2 E2 H2 where
  fr := a.fr.trans b.fr fun x h => by
    rcases h with h | h
    · exact .inl (.inl h)
    · exact (a.own x h).imp .inr id
  own := fun x h => by
    rcases b.own x h with h | h
    · exact a.own x h
    · exact .inr (frm_none a.fr h)
  io := fun i h => (b.io i h).trans (a.io i h)
theorem Step.sim {Γ : Gm} {io : List Nat} {ad : Nat → Addr} {E E' : Env'} {H H' : Hp} (f : Frm (Wo Γ io ad E) H H') (s : Sim E E') : Step Γ io ad E H ad E' H' := ⟨f, fun a h => .inl (by rw [s.Own] at h; exact h), fun _ _ => rfl⟩
theorem Step.go {Γ : Gm} {io : List Nat} {ad ad' : Nat → Addr} {E E' : Env'} {H H' : Hp} (s : Step Γ io ad E H ad' E' H') (hw : ∀ a, Γ.W a → Γ.A a) : Go H (Ao Γ io ad E) H' (Ao Γ io ad' E') :=
  ⟨fun a o h n => s.fr.eq a o h fun z => n (z.elim (fun z => .inl (hw a z)) .inr), fun a h => h.elim (fun z => .inl (.inl z)) fun z => (s.own a z).imp .inr id⟩
def Post (K : PySem.W.Frag) (io : List Nat) (Dn : Ends) (Γ : Gm) (ad : Nat → Addr) (E : Env') (H : Hp) : O → Prop
  | .nx E' => ∀ σ' H' ad', Step Γ io ad E H ad' E' H' → EOk K Γ io ad' σ' H' E' → Dn.nx σ' H'
  | .bk E' => ∀ σ' H' ad', Step Γ io ad E H ad' E' H' → EOk K Γ io ad' σ' H' E' → Dn.bk σ' H'
  | .ct E' => ∀ σ' H' ad', Step Γ io ad E H ad' E' H' → EOk K Γ io ad' σ' H' E' → Dn.ct σ' H'
  | .rt d E' => ∀ v σ' H' ad', Step Γ io ad E H ad' E' H' → EOk K Γ io ad' σ' H' E' → RepD K H' Γ.A d v → Dn.rt v H'
def sD (K : PySem.W.Frag) (io : List Nat) (f : Sf) : TS := fun Dn σ H => ∃ Γ ad E o, EOk K Γ io ad σ H E ∧ f E = some o ∧ Post K io Dn Γ ad E H o
section
variable {X : Cx} {K : PySem.W.Frag} {io : List Nat} {a b c e : Expr} {es : List Expr} {fa fb fc : Ef} {fr : Af} {ga gb : Ev Bool} {pos : Pos} {f g h : Sf} {st : Stmt} {sts : List Stmt}
def sSeq (f g : Sf) : Sf := fun E => (f E).bind fun o => match o with
  | .nx E1 => g E1
  | o => some o
theorem Post.after {Dn : Ends} {Γ : Gm} {ad ad1 : Nat → Addr} {E E1 : Env'} {H H1 : Hp} {o : O} (s : Step Γ io ad E H ad1 E1 H1) (p : Post K io Dn Γ ad E H o) : Post K io Dn Γ ad1 E1 H1 o := by
  cases o with
  | nx E2 => exact fun σ' H' ad' s' ok => p σ' H' ad' (s.trans s') ok
  | bk E2 => exact fun σ' H' ad' s' ok => p σ' H' ad' (s.trans s') ok
  | ct E2 => exact fun σ' H' ad' s' ok => p σ' H' ad' (s.trans s') ok
  | rt d E2 => exact fun v σ' H' ad' s' ok r => p v σ' H' ad' (s.trans s') ok r
theorem sD_seq {Dn : Ends} {σ : L2.St} {H : Hp} (w : sD K io (sSeq f g) Dn σ H) : sD K io f { Dn with nx := sD K io g Dn } σ H := by
  obtain ⟨Γ, ad, E, o, ok, he, p⟩ := w
  obtain ⟨o1, h1, h2⟩ := Option.bind_eq_some_iff.mp he
  refine ⟨Γ, ad, E, o1, ok, h1, ?_⟩
  cases o1 with
  | nx E1 => exact fun σ' H' ad' s' ok' => ⟨Γ, ad', E1, o, ok', h2, p.after s'⟩
  | bk E1 => cases h2; exact p
  | ct E1 => cases h2; exact p
  | rt d E1 => cases h2; exact p
def sNil : Sf := fun E => some (.nx E)
theorem ds_nil : PSs X [] (sD X.K io sNil) := pss_nil.imp fun Dn σ H w => by
  obtain ⟨Γ, ad, E, o, ok, he, p⟩ := w
  cases he
  exact p σ H ad (Step.sim Frm.refl (Sim.refl E)) ok
theorem ds_cons (h1 : PS X st (sD X.K io f)) (h2 : PSs X sts (sD X.K io g)) : PSs X (st :: sts) (sD X.K io (sSeq f g)) := (pss_cons h1 h2).imp fun Dn σ H w => sD_seq w
theorem ds_one (h1 : PS X st (sD X.K io f)) : PSs X [st] (sD X.K io f) := pss_one h1
theorem ds_pass : PS X (.Pass pos) (sD X.K io sNil) := ps_pass.imp fun Dn σ H w => by
  obtain ⟨Γ, ad, E, o, ok, he, p⟩ := w
  cases he
  exact p σ H ad (Step.sim Frm.refl (Sim.refl E)) ok
def sBk : Sf := fun E => some (.bk E)
def sCt : Sf := fun E => some (.ct E)
theorem ds_break : PS X (.Break pos) (sD X.K io sBk) := ps_break.imp fun Dn σ H w => by
  obtain ⟨Γ, ad, E, o, ok, he, p⟩ := w
  cases he
  exact p σ H ad (Step.sim Frm.refl (Sim.refl E)) ok
theorem ds_continue : PS X (.Continue pos) (sD X.K io sCt) := ps_continue.imp fun Dn σ H w => by
  obtain ⟨Γ, ad, E, o, ok, he, p⟩ := w
  cases he
  exact p σ H ad (Step.sim Frm.refl (Sim.refl E)) ok
def sRet (fa : Ef) : Sf := fun E => (fa E).map fun r => .rt r.1 r.2
theorem ao_A {Γ : Gm} {ad : Nat → Addr} {E : Env'} : ∀ a, Γ.A a → Ao Γ io ad E a := fun _ h => .inl h
theorem ds_ret (he : PE X a (tD X.K io fa)) : PS X (.Return (some a) pos) (sD X.K io (sRet fa)) := (ps_ret he).imp fun Dn σ H w => by
  obtain ⟨Γ, ad, E, o, ok, he, p⟩ := w
  obtain ⟨⟨d, E1⟩, h1, h2⟩ := Option.map_eq_some_iff.mp he
  cases h2
  exact ⟨Γ, ad, E, d, E1, ok, h1, fun v H' fr ok' sim r => p v σ H' ad (Step.sim fr sim) ok' ((Go.less ao_A).rep d v r)⟩
def sRetN : Sf := fun E => some (.rt .none E)
theorem ds_retN : PS X (.Return none pos) (sD X.K io sRetN) := ps_retN.imp fun Dn σ H w => by
  obtain ⟨Γ, ad, E, o, ok, he, p⟩ := w
  cases he
  exact p .non σ H ad (Step.sim Frm.refl (Sim.refl E)) ok rep_non
/-- an own list is given out -/
def sRetO (i : Nat) : Sf := fun E => match E[i]? with
  | some (B.o (.lst xs)) => some (.rt (.list xs) E)
  | _ => none
theorem ds_retO {i : Nat} (hio : i ∉ io) (he : PE X a (tVar i)) : PS X (.Return (some a) pos) (sD X.K io (sRetO i)) := (ps_ret he).imp fun Dn σ H w => by
  obtain ⟨Γ, ad, E, o, ok, he, p⟩ := w
  unfold sRetO at he
  split at he
  · rename_i xs hd
    cases he
    obtain ⟨h1, vs, h2, h3, h4⟩ := ok.ob i _ hd
    refine ⟨_, h1, p _ σ H ad (Step.sim Frm.refl (Sim.refl E)) ok ?_⟩
    exact rep_lst ⟨(ok.obn i _ hd hio).2, .inl h2⟩ h3 ((Go.less ao_A).repL xs vs h4)
  · cases he
def sIf (gc : Ev Bool) (f g : Sf) : Sf := fun E => (gc E).bind fun r => if r.1 = true then f r.2 else g r.2
theorem ds_if {p q : List Stmt} (hc : PT X c (cD X.K io ga)) (ha : PSs X p (sD X.K io f)) (hb : PSs X q (sD X.K io g)) : PS X (.If c p q pos) (sD X.K io (sIf ga f g)) := (ps_if hc ha hb).imp fun Dn σ H w => by
  obtain ⟨Γ, ad, E, o, ok, he, p⟩ := w
  obtain ⟨⟨k, E1⟩, h1, h2⟩ := Option.bind_eq_some_iff.mp he
  refine ⟨Γ, ad, E, k, E1, ok, h1, fun v H' fr ok' sim r => ?_⟩
  cases r
  cases k with
  | true => exact ⟨Γ, ad, E1, o, ok', h2, p.after (Step.sim fr sim)⟩
  | false => exact ⟨Γ, ad, E1, o, ok', h2, p.after (Step.sim fr sim)⟩
def sExpr (fa : Ef) : Sf := fun E => (fa E).map fun r => .nx r.2
theorem ds_expr (he : PE X a (tD X.K io fa)) (hs : swapsWith a none pos.line X.env = pure false := by rfl) : PS X (.Expr a pos) (sD X.K io (sExpr fa)) := (ps_expr he hs).imp fun Dn σ H w => by
  obtain ⟨Γ, ad, E, o, ok, he, p⟩ := w
  obtain ⟨⟨d, E1⟩, h1, h2⟩ := Option.map_eq_some_iff.mp he
  cases h2
  exact ⟨Γ, ad, E, d, E1, ok, h1, fun v H' fr ok' sim r => p σ H' ad (Step.sim fr sim) ok'⟩
/-! ### names are given things -/
theorem EOk.set1 {Γ : Gm} {ad : Nat → Addr} {σ : L2.St} {H : Hp} {E : Env'} (ok : EOk K Γ io ad σ H E) {i : Nat} (hi : i ∉ io) {d : PyData} {v : V} (r : RepD K H (Ao Γ io ad E) d v) :
    EOk K Γ io ad (σ.set i (some v)) H (E.set i (B.v d)) ∧ ∀ a, Own io ad (E.set i (B.v d)) a → Own io ad E a := by
  have back : ∀ (j : Nat) (m : M), (E.set i (B.v d))[j]? = some (B.o m) → E[j]? = some (B.o m) := fun j m z => by
    by_cases q : i = j
    · subst q
      by_cases hl : i < E.length
      · rw [List.getElem?_set_self hl] at z; cases z
      · rw [List.set_eq_of_length_le (by omega)] at z; exact z
    · rw [List.getElem?_set_ne q] at z; exact z
  have sub : ∀ a, Own io ad (E.set i (B.v d)) a → Own io ad E a := fun a ⟨j, m, h1, h2, h3⟩ => ⟨j, m, h1, back j m h2, h3⟩
  have g : Go H (Ao Γ io ad E) H (Ao Γ io ad (E.set i (B.v d))) := Go.less fun a h => h.elim .inl fun z => .inr (sub a z)
  refine ⟨⟨by rw [List.length_set, List.length_set]; exact ok.len, ok.w, ok.oA, ok.hk, fun j d' z => ?_, fun j m z => ?_, fun j m z => ok.obi j m (back j m z), fun j m z => ok.obn j m (back j m z), fun j k m m' z1 z2 => ok.inj j k m m' (back j m z1) (back k m' z2)⟩, sub⟩
  · by_cases q : i = j
    · subst q
      have hl : i < E.length := by
        have := (List.getElem?_eq_some_iff.mp z).1
        rw [List.length_set] at this; exact this
      rw [List.getElem?_set_self hl] at z
      cases z
      exact ⟨v, List.getElem?_set_self (by rw [ok.len]; exact hl), g.rep d v r⟩
    · rw [List.getElem?_set_ne q] at z
      obtain ⟨u, h1, h2⟩ := ok.vl j d' z
      exact ⟨u, by rw [List.getElem?_set_ne q]; exact h1, g.rep d' u h2⟩
  · have z' := back j m z
    have q : i ≠ j := fun q => by
      subst q
      have hl : i < E.length := (List.getElem?_eq_some_iff.mp z').1
      rw [List.getElem?_set_self hl] at z
      cases z
    obtain ⟨h1, h2⟩ := ok.ob j m z'
    refine ⟨by rw [List.getElem?_set_ne q]; exact h1, ?_⟩
    cases m with
    | lst xs => obtain ⟨vs, z0, z1, z2⟩ := h2; exact ⟨vs, z0, z1, g.repL xs vs z2⟩
theorem EOk.sets {Γ : Gm} {ad : Nat → Addr} {H : Hp} : ∀ {as : List (Nat × PyData)} {ws : List (Nat × V)} {σ : L2.St} {E : Env'}, EOk K Γ io ad σ H E → (∀ p ∈ as, p.1 ∉ io) → SetR K H (Ao Γ io ad E) as ws →
    EOk K Γ io ad (setS σ ws) H (setE E as) ∧ ∀ a, Own io ad (setE E as) a → Own io ad E a
  | [], ws, σ, E, ok, _, r => by unfold SetR at r; subst r; exact ⟨ok, fun _ h => h⟩
  | p :: ps, ws, σ, E, ok, hio, r => by
    obtain ⟨v, r', e, r1, r2⟩ := r
    subst e
    obtain ⟨ok1, sub1⟩ := ok.set1 (hio p List.mem_cons_self) r1
    have g : Go H (Ao Γ io ad E) H (Ao Γ io ad (E.set p.1 (B.v p.2))) := Go.less fun a h => h.elim .inl fun z => .inr (sub1 a z)
    have lift : ∀ {qs : List (Nat × PyData)} {us : List (Nat × V)}, SetR K H (Ao Γ io ad E) qs us → SetR K H (Ao Γ io ad (E.set p.1 (B.v p.2))) qs us := by
      intro qs
      induction qs with
      | nil => intro us h; exact h
      | cons q qs ih => intro us ⟨v, r, e, h1, h2⟩; exact ⟨v, r, e, g.rep _ _ h1, ih h2⟩
    obtain ⟨ok2, sub2⟩ := EOk.sets ok1 (fun q hq => hio q (List.mem_cons_of_mem _ hq)) (lift r2)
    exact ⟨ok2, fun a h => sub1 a (sub2 a h)⟩
/-- the slots of a target are not of the in-out ones -/
def TOk (io : List Nat) (τ : Tf) : Prop := ∀ d as, τ d = some as → ∀ p ∈ as, p.1 ∉ io
theorem tok_n {i : Nat} (h : i ∉ io) : TOk io (τN i) := fun d as e p hp => by cases e; cases List.mem_singleton.mp hp; exact h
def TsOk (io : List Nat) (τ : List PyData → Option (List (Nat × PyData))) : Prop := ∀ d as, τ d = some as → ∀ p ∈ as, p.1 ∉ io
theorem tok_nil : TsOk io τNil := fun d as e p hp => by
  cases d with
  | nil => cases e; cases hp
  | cons _ _ => cases e
theorem tok_cons {t : Tf} {u : List PyData → Option (List (Nat × PyData))} (h1 : TOk io t) (h2 : TsOk io u) : TsOk io (τCons t u) := fun d as e p hp => by
  cases d with
  | nil => cases e
  | cons d ds =>
    obtain ⟨x, h3, h4⟩ := Option.bind_eq_some_iff.mp e
    obtain ⟨y, h5, h6⟩ := Option.map_eq_some_iff.mp h4
    subst h6
    rcases List.mem_append.mp hp with h | h
    · exact h1 d x h3 p h
    · exact h2 ds y h5 p h
theorem tok_t {u : List PyData → Option (List (Nat × PyData))} {n : Nat} (h2 : TsOk io u) : TOk io (τT n u) := fun d as e p hp => by
  unfold τT at e
  split at e
  · split at e
    · exact h2 _ as e p hp
    · cases e
  · cases e
def sAsg (fa : Ef) (τ : Tf) : Sf := fun E => (fa E).bind fun r => (τ r.1).map fun as => .nx (setE r.2 as)
theorem sD_asg {τ : Tf} (ht : TOk io τ) {Dn : Ends} {σ : L2.St} {H : Hp} (w : sD K io (sAsg fa τ) Dn σ H) : tAsg (tD K io fa) (gD K τ) Dn σ H := by
  obtain ⟨Γ, ad, E, o, ok, he, p⟩ := w
  obtain ⟨⟨d, E1⟩, h1, h2⟩ := Option.bind_eq_some_iff.mp he
  obtain ⟨as, h3, h4⟩ := Option.map_eq_some_iff.mp h2
  subst h4
  refine ⟨Γ, ad, E, d, E1, ok, h1, fun v H' fr ok' sim r => ⟨Ao Γ io ad E, d, as, r, h3, fun ws hw => ?_⟩⟩
  obtain ⟨ok2, sub⟩ := ok'.sets (ht d as h3) (by rw [sim.Ao]; exact hw)
  exact p _ H' ad ⟨fr, fun a h => .inl (by have := sub a h; rw [sim.Own] at this; exact this), fun _ _ => rfl⟩ ok2
theorem ds_asg {τ : Tf} {tg : Expr} (ht : TOk io τ) (he : PE X a (tD X.K io fa)) (hg : PG X tg (gD X.K τ)) (hs : swapsWithSole [tg] a pos.line X.env = pure false := by rfl) (hw : swappedStores [tg] a X.env = pure none := by rfl)
    (h1 : (assignEach [tg] X.env).map (·.2) = [assign tg X.env] := by rfl) : PS X (.Assign [tg] a pos) (sD X.K io (sAsg fa τ)) := (ps_asg he hg hs hw h1).imp fun Dn σ H w => sD_asg ht w
/-- a name -/
theorem ds_set {i : Nat} {x : Str} {p : Pos} (hi : i ∉ io) (h : PE X a (tD X.K io fa) → PS X (.Assign [.Name x p] a pos) (tAsg (tD X.K io fa) (gName i))) (he : PE X a (tD X.K io fa)) : PS X (.Assign [.Name x p] a pos) (sD X.K io (sAsg fa (τN i))) :=
  (h he).imp fun Dn σ H w => by
    have w' := sD_asg (τ := τN i) (tok_n hi) w
    obtain ⟨Γ, ad, E, d, E1, ok, h1, k⟩ := w'
    refine ⟨Γ, ad, E, d, E1, ok, h1, fun v H' fr ok' sim r => ?_⟩
    obtain ⟨A, d', as, r', e, q⟩ := k v H' fr ok' sim r
    cases e
    exact q [(i, v)] ⟨v, [], rfl, r', by unfold SetR; rfl⟩
/-- a, b = x, y, no pair made -/
def sPar2 (i j : Nat) (fr : Af) : Sf := fun E => (fr E).bind fun r => (onlyV r.1).bind fun ds => match ds with
  | [x, y] => some (.nx (setE r.2 [(i, x), (j, y)]))
  | _ => none
theorem ds_par2 {i j : Nat} (hi : i ∉ io) (hj : j ∉ io) (h : PS X st (tPar i j (aD X.K io fr))) : PS X st (sD X.K io (sPar2 i j fr)) := h.imp fun Dn σ H w => by
  obtain ⟨Γ, ad, E, o, ok, he, p⟩ := w
  obtain ⟨⟨gs, E1⟩, h1, h2⟩ := Option.bind_eq_some_iff.mp he
  obtain ⟨ds, h3, h4⟩ := Option.bind_eq_some_iff.mp h2
  split at h4
  · rename_i x y
    cases h4
    refine ⟨Γ, ad, E, gs, E1, ok, h1, fun vs H' fr ok' sim r => ?_⟩
    have r' := RepG.repL (onlyV_map h3) r
    unfold RepL at r'
    obtain ⟨v, r1, e, q1, r'⟩ := r'
    unfold RepL at r'
    obtain ⟨u, r2, e2, q2, r'⟩ := r'
    unfold RepL at r'
    subst r' e2 e
    refine ⟨v, u, rfl, ?_⟩
    obtain ⟨ok2, sub⟩ := ok'.sets (as := [(i, x), (j, y)]) (ws := [(i, v), (j, u)]) (fun p hp => by
      rcases List.mem_cons.mp hp with e | hp
      · subst e; exact hi
      · cases List.mem_singleton.mp hp; exact hj) (by rw [sim.Ao]; exact ⟨v, _, rfl, q1, u, _, rfl, q2, by unfold SetR; rfl⟩)
    exact p _ H' ad ⟨fr, fun a h => .inl (by have := sub a h; rw [sim.Own] at this; exact this), fun _ _ => rfl⟩ ok2
  · cases h4
def sPar3 (i j l : Nat) (fr : Af) : Sf := fun E => (fr E).bind fun r => (onlyV r.1).bind fun ds => match ds with
  | [x, y, z] => some (.nx (setE r.2 [(i, x), (j, y), (l, z)]))
  | _ => none
theorem ds_par3 {i j l : Nat} (hi : i ∉ io) (hj : j ∉ io) (hl : l ∉ io) (h : PS X st (tPar3 i j l (aD X.K io fr))) : PS X st (sD X.K io (sPar3 i j l fr)) := h.imp fun Dn σ H w => by
  obtain ⟨Γ, ad, E, o, ok, he, p⟩ := w
  obtain ⟨⟨gs, E1⟩, h1, h2⟩ := Option.bind_eq_some_iff.mp he
  obtain ⟨ds, h3, h4⟩ := Option.bind_eq_some_iff.mp h2
  split at h4
  · rename_i x y z
    cases h4
    refine ⟨Γ, ad, E, gs, E1, ok, h1, fun vs H' fr ok' sim r => ?_⟩
    have r' := RepG.repL (onlyV_map h3) r
    unfold RepL at r'
    obtain ⟨v, r1, e, q1, r'⟩ := r'
    unfold RepL at r'
    obtain ⟨u, r2, e2, q2, r'⟩ := r'
    unfold RepL at r'
    obtain ⟨t, r3, e3, q3, r'⟩ := r'
    unfold RepL at r'
    subst r' e3 e2 e
    refine ⟨v, u, t, rfl, ?_⟩
    obtain ⟨ok2, sub⟩ := ok'.sets (as := [(i, x), (j, y), (l, z)]) (ws := [(i, v), (j, u), (l, t)]) (fun p hp => by
      rcases List.mem_cons.mp hp with e | hp
      · subst e; exact hi
      · rcases List.mem_cons.mp hp with e | hp
        · subst e; exact hj
        · cases List.mem_singleton.mp hp; exact hl) (by rw [sim.Ao]; exact ⟨v, _, rfl, q1, u, _, rfl, q2, t, _, rfl, q3, by unfold SetR; rfl⟩)
    exact p _ H' ad ⟨fr, fun a h => .inl (by have := sub a h; rw [sim.Own] at this; exact this), fun _ _ => rfl⟩ ok2
  · cases h4
end
end DL

namespace DL
open PySem PySem.Spec PyProof.Rows L2

section
variable {X : Cx} {K : PySem.W.Frag} {io : List Nat} {a b c e x : Expr} {es : List Expr} {fa fb fc : Ef} {fr : Af} {ga gb : Ev Bool} {pos : Pos} {f g h : Sf} {st : Stmt} {sts : List Stmt}
/-! ### own lists are changed -/
def getO (i : Nat) (E : Env') : Option (List PyData) := match E[i]? with
  | some (B.o (.lst xs)) => some xs
  | _ => none
theorem getO_at {i : Nat} {E : Env'} {xs : List PyData} (h : getO i E = some xs) : E[i]? = some (B.o (.lst xs)) := by
  unfold getO at h
  split at h
  · rename_i hd; cases h; exact hd
  · cases h
theorem EOk.getO {Γ : Gm} {ad : Nat → Addr} {σ : L2.St} {H : Hp} {E : Env'} (ok : EOk K Γ io ad σ H E) {i : Nat} {xs : List PyData} (h : DL.getO i E = some xs) :
    σ[i]? = some (some (.ref (ad i))) ∧ ∃ vs, H (ad i) = some (.lst vs) ∧ vs.length ≤ sizeLine ∧ RepL K H (Ao Γ io ad E) xs vs := ok.ob i _ (getO_at h)
def sApp (i : Nat) (fa : Ef) : Sf := fun E => (getO i E).bind fun _ => (fa E).bind fun r => (getO i r.2).bind fun xs => if xs.length < sizeLine then some (.nx (r.2.set i (B.o (.lst (xs ++ [r.1]))))) else none
theorem ds_app {i : Nat} (hx : PE X x (tVar i)) (he : PE X e (tD X.K io fa)) (h : PE X e (tD X.K io fa) → PS X st (tDrop (tBM X.K "list" rAppend (tVar i) (tCons (tD X.K io fa) tNil)))) : PS X st (sD X.K io (sApp i fa)) := (h he).imp fun Dn σ H w => by
  obtain ⟨Γ, ad, E, o, ok, he, p⟩ := w
  obtain ⟨xs0, h0, he⟩ := Option.bind_eq_some_iff.mp he
  obtain ⟨⟨d, E1⟩, h1, h2⟩ := Option.bind_eq_some_iff.mp he
  obtain ⟨xs, h3, h4⟩ := Option.bind_eq_some_iff.mp h2
  split at h4
  · rename_i hl
    cases h4
    obtain ⟨e1, vs0, q1, q2, q3⟩ := ok.getO h0
    refine ⟨_, e1, .inl ⟨rfl, vs0, .inl (.inl q1)⟩, Γ, ad, E, d, E1, ok, h1, fun v H' fr ok' sim r => ?_⟩
    obtain ⟨e2, vs, z1, z2, z3⟩ := ok'.getO h3
    have lv := z3.length
    refine ⟨_, vs, v, rfl, rfl, z1, by omega, ?_⟩
    obtain ⟨ok2, fr2, sim2⟩ := ok'.put (vs := vs ++ [v]) (xs := xs ++ [d]) (getO_at h3) (by rw [List.length_append, List.length_singleton]; omega) (z3.append (repL_cons (by rw [sim.Ao]; exact r) repL_nil))
    rw [sim.Wo] at fr2
    exact p σ _ ad (Step.sim (fr.trans' fr2) (sim.trans sim2)) ok2
  · cases h4
/-- x[k] = e -/
def sSetI (i : Nat) (fi fa : Ef) : Sf := fun E => (fa E).bind fun r => (getO i r.2).bind fun _ => (fi r.2).bind fun s => (getO i s.2).bind fun xs => match s.1 with
  | .int k => (ixN xs.length k).map fun j => .nx (s.2.set i (B.o (.lst (xs.set j r.1))))
  | _ => none
theorem ds_setI {i : Nat} {fi : Ef} (hx : PE X x (tVar i)) (hk : PE X b (tD X.K io fi)) (he : PE X e (tD X.K io fa)) (h : PE X x (tVar i) → PE X b (tD X.K io fi) → PE X e (tD X.K io fa) → PS X st (tAsg (tD X.K io fa) (gSub (tVar i) (tD X.K io fi) rSetL))) : PS X st (sD X.K io (sSetI i fi fa)) := (h hx hk he).imp fun Dn σ H w => by
  obtain ⟨Γ, ad, E, o, ok, he, p⟩ := w
  obtain ⟨⟨d, E1⟩, h1, h2⟩ := Option.bind_eq_some_iff.mp he
  obtain ⟨xs0, h3, h4⟩ := Option.bind_eq_some_iff.mp h2
  obtain ⟨⟨k, E2⟩, h5, h6⟩ := Option.bind_eq_some_iff.mp h4
  obtain ⟨xs, h7, h8⟩ := Option.bind_eq_some_iff.mp h6
  cases k with
  | int k =>
    obtain ⟨j, hj, e1⟩ := Option.map_eq_some_iff.mp h8
    subst e1
    refine ⟨Γ, ad, E, d, E1, ok, h1, fun v H1 fr ok1 sim r => ?_⟩
    refine ⟨_, (ok1.getO h3).1, Γ, ad, E1, .int k, E2, ok1, h5, fun vk H2 fr2 ok2 sim2 r2 => ?_⟩
    obtain ⟨e2, vs, z1, z2, z3⟩ := ok2.getO h7
    refine ⟨_, vs, k, j, rfl, r2.int, z1, by rw [z3.length]; exact hj, ?_⟩
    have r' : RepD X.K H2 (Ao Γ io ad E1) d v := (Go.frm fr2 ok1.wa).rep d v (by rw [sim.Ao]; exact r)
    obtain ⟨ok3, fr3, sim3⟩ := ok2.put (vs := vs.set j v) (xs := xs.set j d) (getO_at h7) (by rw [List.length_set]; exact z2) (z3.set j (by rw [sim2.Ao]; exact r'))
    rw [sim2.Wo] at fr3
    have fr23 := fr2.trans' fr3
    rw [sim.Wo] at fr23
    exact p σ _ ad (Step.sim (fr.trans' fr23) ((sim.trans sim2).trans sim3)) ok3
  | _ => cases h8
/-! ### new lists of the frame's own -/
def Gm.with (Γ : Gm) (p : Addr) : Gm := { Γ with A := fun a => Γ.A a ∨ a = p }
abbrev Lf := Ev (List PyData)
def lD (K : PySem.W.Frag) (io : List Nat) (f : Lf) : TE := fun σ H Q => ∃ Γ ad E ds E', EOk K Γ io ad σ H E ∧ f E = some (ds, E') ∧ ∀ p vs H', Frm (Wo Γ io ad E) H H' → H p = none → H' p = some (.lst vs) → vs.length ≤ sizeLine →
  EOk K (Γ.with p) io ad σ H' E' → RepL K H' (Ao (Γ.with p) io ad E') ds vs → Sim E E' → Q (.ref p) H'
theorem EOk.with {Γ : Gm} {ad : Nat → Addr} {σ : L2.St} {H : Hp} {E : Env'} (ok : EOk K Γ io ad σ H E) {p : Addr} (hp : H p = none) {vs : List V} : EOk K (Γ.with p) io ad σ (upd H p (.lst vs)) E ∧ Go H (Ao Γ io ad E) (upd H p (.lst vs)) (Ao (Γ.with p) io ad E) := by
  have f : Frm F0 H (upd H p (.lst vs)) := Frm.new hp
  have g : Go H (Ao Γ io ad E) (upd H p (.lst vs)) (Ao (Γ.with p) io ad E) := ⟨fun a o h n => f.eq a o h id, fun a h => by
    rcases h with (h | h) | h
    · exact .inl (.inl h)
    · subst h; exact .inr hp
    · exact .inl (.inr h)⟩
  refine ⟨⟨ok.len, fun a h => .inl (ok.w a h), fun a h => ?_, fun a h => f.on a (ok.hk a h), fun i d h => ?_, fun i m h => ?_, ok.obi, fun i m h hi => ⟨(ok.obn i m h hi).1, fun z => ?_⟩, ok.inj⟩, g⟩
  · rcases h with h | h
    · exact f.on a (ok.oA a h)
    · subst h; rw [upd_same]; exact fun z => nomatch z
  · obtain ⟨v, h1, h2⟩ := ok.vl i d h
    exact ⟨v, h1, g.rep d v h2⟩
  · obtain ⟨h1, h2⟩ := ok.ob i m h
    refine ⟨h1, ?_⟩
    cases m with
    | lst xs => obtain ⟨ws, z, z1, z2⟩ := h2; exact ⟨ws, f.eq _ _ z id, z1, g.repL xs ws z2⟩
  · rcases z with z | z
    · exact (ok.obn i m h hi).2 z
    · have := ok.on (ad i) (.inr ⟨i, m, hi, h, rfl⟩)
      rw [z] at this
      exact this hp
theorem EOk.unwith {Γ : Gm} {ad : Nat → Addr} {σ : L2.St} {H : Hp} {E : Env'} {p : Addr} (ok : EOk K (Γ.with p) io ad σ H E) (hw : ∀ a, Γ.W a → Γ.A a) : EOk K Γ io ad σ H E := ok.less (fun _ h => .inl h) rfl hw rfl
/-- a new list as a plain thing -/
theorem ld_val (h : PE X a (lD X.K io fl)) : PE X a (tD X.K io fun E => (fl E).map fun r => (PyData.list r.1, r.2)) := h.imp fun σ H Q w => by
  obtain ⟨Γ, ad, E, d, E', ok, he, q⟩ := w
  obtain ⟨⟨ds, E1⟩, h1, h2⟩ := Option.map_eq_some_iff.mp he
  cases h2
  refine ⟨Γ, ad, E, ds, E1, ok, h1, fun p vs H' fr hp hl hz ok' r sim => ?_⟩
  have np : ¬ Ao Γ io ad E p := fun z => ok.on p z hp
  refine q _ H' fr (ok'.unwith ok.w) sim (rep_lst ⟨np, .inl hl⟩ hz ((Go.less fun a z => ?_).repL ds vs r))
  rw [sim.Ao]
  exact z.elim (fun z => .inl (.inl z)) .inr
/-- a list display -/
theorem ll_lst (h : PA X es (aD X.K io fr)) : PE X (.List es pos) (lD X.K io fun E => (fr E).bind fun r => (onlyV r.1).bind fun ds => if ds.length ≤ sizeLine then some (ds, r.2) else none) := (pe_lst h).imp fun σ H Q w => by
  obtain ⟨Γ, ad, E, ds, E', ok, he, q⟩ := w
  obtain ⟨⟨gs, E1⟩, h1, h2⟩ := Option.bind_eq_some_iff.mp he
  obtain ⟨ds', h3, h4⟩ := Option.bind_eq_some_iff.mp h2
  split at h4
  · rename_i hl
    cases h4
    refine ⟨Γ, ad, E, gs, E1, ok, h1, fun vs H1 fr1 ok1 sim1 r1 => ?_⟩
    have r := RepG.repL (onlyV_map h3) r1
    refine ⟨by rw [r.length]; exact hl, fun p hp => ?_⟩
    obtain ⟨ok2, g⟩ := ok1.with hp (vs := vs)
    exact q p vs _ (fr1.trans' (Frm.new hp).of0) (frm_none fr1 hp) upd_same (by rw [r.length]; exact hl) ok2 (g.repL _ _ (by rw [sim1.Ao]; exact r)) sim1
  · cases h4
/-- list(x), list + list -/
theorem ll_list {x : Str} {p : Pos} (hg : Gl X x) (hm : X.mg x = none) (hv : bootBuiltins x = some (.type "list")) (ha : PA X (e :: es) (aD X.K io fr)) (hn : x ≠ "__name__" := by decide) (hdb : (x == ("__debug__" : Str)) = false := by decide)
    (he : starEach (e :: es) X.env = (false, eval e X.env) :: starEach es X.env := by rfl) (hpl : (backTo pos (starEach es X.env)).any (·.1) = false := by rfl) :
    PE X (.Call (.Name x p) (e :: es) [] pos) (lD X.K io fun E => (fr E).bind fun r => (resAll r.2 r.1).bind fun ds => match ds with | [.list xs] => some (xs, r.2) | [.tuple xs] => some (xs, r.2) | _ => none) :=
  (pe_callTy call_list_of hg hm hv ha hn hdb he hpl).imp fun σ H Q w => by
    obtain ⟨Γ, ad, E, ds, E', ok, he, q⟩ := w
    obtain ⟨⟨gs, E1⟩, h1, h2⟩ := Option.bind_eq_some_iff.mp he
    obtain ⟨ds', h3, h4⟩ := Option.bind_eq_some_iff.mp h2
    refine ⟨Γ, ad, E, gs, E1, ok, h1, fun vs H1 fr1 ok1 sim1 r1 => ?_⟩
    have rs := res_rep ok1 h3 (by rw [sim1.Ao]; exact r1)
    split at h4
    · cases h4
      obtain ⟨v, e1, r⟩ := rs.one
      obtain ⟨l, ws, e2, t, hl, r'⟩ := r.lst
      subst e1 e2
      refine ⟨_, ws, rfl, .inl (.inl t), fun p hp => ?_⟩
      obtain ⟨ok2, g⟩ := ok1.with hp (vs := ws)
      exact q p ws _ (fr1.trans' (Frm.new hp).of0) (frm_none fr1 hp) upd_same hl ok2 (g.repL _ _ r') sim1
    · cases h4
      obtain ⟨v, e1, r⟩ := rs.one
      obtain ⟨l, ws, e2, t, hl, r'⟩ := r.tup
      subst e1 e2
      refine ⟨_, ws, rfl, .inr t.sq, fun p hp => ?_⟩
      obtain ⟨ok2, g⟩ := ok1.with hp (vs := ws)
      exact q p ws _ (fr1.trans' (Frm.new hp).of0) (frm_none fr1 hp) upd_same hl ok2 (g.repL _ _ r') sim1
    · cases h4
/-- name = a new list, the name's own from now on -/
def sOwn (i : Nat) (f : Lf) : Sf := fun E => (f E).bind fun r => if i < r.2.length then some (.nx (r.2.set i (B.o (.lst r.1)))) else none
theorem sD_own {fl : Lf} {i : Nat} (hi : i ∉ io) {Dn : Ends} {σ : L2.St} {H : Hp} (w : sD K io (sOwn i fl) Dn σ H) : tAsg (lD K io fl) (gName i) Dn σ H := by
  obtain ⟨Γ, ad, E, o, ok, he, p⟩ := w
  obtain ⟨⟨ds, E1⟩, h1, h2⟩ := Option.bind_eq_some_iff.mp he
  split at h2
  · rename_i hl
    cases h2
    have hl : i < E1.length := hl
    refine ⟨Γ, ad, E, ds, E1, ok, h1, fun q vs H' fr hp hq hz ok' r sim => ?_⟩
    have np : ∀ j m, E1[j]? = some (B.o m) → ad j ≠ q := fun j m z e => by
      obtain ⟨m', z'⟩ := sim.own.mp ⟨m, z⟩
      exact ok.on (ad j) ((ok.wa _ (ok.wo z'))) (by rw [e]; exact hp)
    let ad' : Nat → Addr := fun j => if j = i then q else ad j
    have adi : ad' i = q := if_pos rfl
    have adj : ∀ j, j ≠ i → ad' j = ad j := fun j h => if_neg h
    have getj : ∀ (j : Nat) (m : M), j ≠ i → (E1.set i (B.o (.lst ds)))[j]? = some (B.o m) → E1[j]? = some (B.o m) := fun j m n z => by rw [List.getElem?_set_ne (Ne.symm n)] at z; exact z
    have subA : ∀ a, Ao Γ io ad' (E1.set i (B.o (.lst ds))) a → Ao (Γ.with q) io ad E1 a := fun a h => by
      rcases h with h | ⟨j, m, h1, h2, h3⟩
      · exact .inl (.inl h)
      · by_cases e : j = i
        · subst e; rw [adi] at h3; exact .inl (.inr h3)
        · rw [adj j e] at h3; exact .inr ⟨j, m, h1, getj j m e h2, h3⟩
    have g : Go H' (Ao (Γ.with q) io ad E1) H' (Ao Γ io ad' (E1.set i (B.o (.lst ds)))) := Go.less subA
    refine p _ H' ad' ⟨fr, fun a h => ?_, fun j hj => adj j fun e => hi (e ▸ hj)⟩ ⟨by rw [List.length_set, List.length_set]; exact ok'.len, ok.w, fun a h => ok'.oA a (.inl h), ok'.hk, fun j d z => ?_, fun j m z => ?_, fun j m z hj => ?_, fun j m z hj => ?_, fun j k m m' z1 z2 e => ?_⟩
    · obtain ⟨j, m, h1, h2, h3⟩ := h
      by_cases e : j = i
      · subst e; rw [adi] at h3; rw [h3]; exact .inr hp
      · rw [adj j e] at h3
        obtain ⟨m', z'⟩ := sim.own.mp ⟨m, getj j m e h2⟩
        exact .inl ⟨j, m', h1, z', h3⟩
    · have e : j ≠ i := fun e => by subst e; rw [List.getElem?_set_self hl] at z; cases z
      rw [List.getElem?_set_ne (Ne.symm e)] at z
      obtain ⟨v, q1, q2⟩ := ok'.vl j d z
      exact ⟨v, by rw [List.getElem?_set_ne (Ne.symm e)]; exact q1, g.rep d v q2⟩
    · by_cases e : j = i
      · subst e
        rw [List.getElem?_set_self hl] at z
        cases z
        exact ⟨by rw [adi, List.getElem?_set_self (by rw [ok'.len]; exact hl)], vs, by rw [adi]; exact hq, hz, g.repL ds vs r⟩
      · have z' := getj j m e z
        obtain ⟨q1, q2⟩ := ok'.ob j m z'
        refine ⟨by rw [adj j e, List.getElem?_set_ne (Ne.symm e)]; exact q1, ?_⟩
        rw [adj j e]
        cases m with
        | lst xs => obtain ⟨ws, y0, y1, y2⟩ := q2; exact ⟨ws, y0, y1, g.repL xs ws y2⟩
    · have e : j ≠ i := fun e => hi (e ▸ hj)
      rw [adj j e]
      exact ok'.obi j m (getj j m e z) hj
    · by_cases e : j = i
      · subst e
        rw [adi]
        refine ⟨?_, fun z => ?_⟩
        · cases qh : Γ.H q with
          | none => rfl
          | some o => exact absurd hp (ok.hk q (by rw [qh]; exact fun z => nomatch z))
        · exact ok.oA q z hp
      · rw [adj j e]
        obtain ⟨q1, q2⟩ := ok'.obn j m (getj j m e z) hj
        exact ⟨q1, fun z => q2 (.inl z)⟩
    · by_cases ej : j = i
      · by_cases ek : k = i
        · rw [ej, ek]
        · rw [ej, adi, adj k ek] at e
          exact absurd e.symm (np k m' (getj k m' ek z2))
      · by_cases ek : k = i
        · rw [ek, adi, adj j ej] at e
          exact absurd e (np j m (getj j m ej z1))
        · rw [adj j ej, adj k ek] at e
          exact ok'.inj j k m m' (getj j m ej z1) (getj k m' ek z2) e
  · cases h2
theorem ds_own {fl : Lf} {i : Nat} (hi : i ∉ io) (he : PE X a (lD X.K io fl)) (h : PE X a (lD X.K io fl) → PS X st (tAsg (lD X.K io fl) (gName i))) : PS X st (sD X.K io (sOwn i fl)) := (h he).imp fun Dn σ H w => sD_own hi w
end
end DL

namespace DL
open PySem PySem.Spec PyProof.Rows L2

/-! ### what is walked -/
/-- what an iterator gives, one after another, wherever the heap has gone on -/
structure Its' (K : PySem.W.Frag) (H : Hp) (A : Addr → Prop) (ds : List PyData) (G : Hp → Prop) (Y : Nat → Hp → V → Hp → Prop) : Prop where
  len : ds.length ≤ sizeLine
  at_ : ∀ H2 A2, Go H A H2 A2 → (∀ a, A2 a → H2 a ≠ none) → G H2 ∧ ∀ i x H3 d, ds[i]? = some d → Y i H2 x H3 → Frm F0 H2 H3 ∧ RepD K H3 A2 d x
def iD (K : PySem.W.Frag) (io : List Nat) (f : Lf) : TI := fun σ H R => ∃ Γ ad E ds E', EOk K Γ io ad σ H E ∧ f E = some (ds, E') ∧
  ∀ J n G Y H1, Frm (Wo Γ io ad E) H H1 → EOk K Γ io ad σ H1 E' → Sim E E' → Walk J n G Y → n = ds.length → Its' K H1 (Ao Γ io ad E') ds G Y → R J H1
theorem _root_.L2.PI.imp {X : Cx} {tg e : Expr} {t t' : TI} (h : PI X tg e t) (k : ∀ σ H R, t' σ H R → t σ H R) : PI X tg e t' := ⟨fun pins s σ H R I w => h.run pins s σ H R I (k σ H R w)⟩
section
variable {X : Cx} {K : PySem.W.Frag} {io : List Nat} {a b c e x tg elt : Expr} {es : List Expr} {fa fb fc : Ef} {fr : Af} {ga gb : Ev Bool} {pos : Pos} {f g h : Sf} {st : Stmt} {sts : List Stmt}
def itL : PyData → Option (List PyData)
  | .list xs => some xs
  | _ => none
def itT : PyData → Option (List PyData)
  | .tuple xs => some xs
  | _ => none
def itS : PyData → Option (List PyData)
  | .str z => some (z.cps.toList.map fun c => .str ⟨#[c]⟩)
  | _ => none
theorem di_list (ha : PE X a (tD X.K io fa)) : PI X tg a (iD X.K io (f1 itL fa)) := (pi_list ha).imp fun σ H R w => by
  obtain ⟨Γ, ad, E, ds, E', ok, he, q⟩ := w
  obtain ⟨⟨d, E1⟩, h1, h2⟩ := Option.bind_eq_some_iff.mp he
  obtain ⟨z, h3, h4⟩ := Option.map_eq_some_iff.mp h2
  cases h4
  refine ⟨Γ, ad, E, d, E1, ok, h1, fun v H' fr ok' sim r => ?_⟩
  cases d with
  | list xs =>
    cases h3
    obtain ⟨p, vs, e, t, hz, r'⟩ := r.lst
    subst e
    refine ⟨p, rfl, ⟨vs, t.sq⟩, q _ _ _ _ H' fr ok' sim walk_list r'.length ⟨by rw [← r'.length]; exact hz, fun H2 A2 g hA => ?_⟩⟩
    rw [sim.Ao] at g
    refine ⟨(g.lst t).sq, fun i x H3 d hd y => ?_⟩
    obtain ⟨e, y⟩ := y
    subst e
    obtain ⟨v, h1, h2⟩ := (g.repL _ _ r').get hd
    rw [y] at h1
    cases h1
    exact ⟨Frm.refl, h2⟩
  | _ => cases h3
theorem di_tup (ha : PE X a (tD X.K io fa)) : PI X tg a (iD X.K io (f1 itT fa)) := (pi_tup ha).imp fun σ H R w => by
  obtain ⟨Γ, ad, E, ds, E', ok, he, q⟩ := w
  obtain ⟨⟨d, E1⟩, h1, h2⟩ := Option.bind_eq_some_iff.mp he
  obtain ⟨z, h3, h4⟩ := Option.map_eq_some_iff.mp h2
  cases h4
  refine ⟨Γ, ad, E, d, E1, ok, h1, fun v H' fr ok' sim r => ?_⟩
  cases d with
  | tuple xs =>
    cases h3
    obtain ⟨p, vs, e, t, hz, r'⟩ := r.tup
    subst e
    refine ⟨p, rfl, ⟨vs, t.sq⟩, q _ _ _ _ H' fr ok' sim walk_tup r'.length ⟨by rw [← r'.length]; exact hz, fun H2 A2 g hA => ?_⟩⟩
    rw [sim.Ao] at g
    refine ⟨(g.tup t).sq, fun i x H3 d hd y => ?_⟩
    obtain ⟨e, y⟩ := y
    subst e
    obtain ⟨v, h1, h2⟩ := (g.repL _ _ r').get hd
    rw [y] at h1
    cases h1
    exact ⟨Frm.refl, h2⟩
  | _ => cases h3
theorem di_str (ha : PE X a (tD X.K io fa)) : PI X tg a (iD X.K io (f1 itS fa)) := (pi_str ha).imp fun σ H R w => by
  obtain ⟨Γ, ad, E, ds, E', ok, he, q⟩ := w
  obtain ⟨⟨d, E1⟩, h1, h2⟩ := Option.bind_eq_some_iff.mp he
  obtain ⟨z, h3, h4⟩ := Option.map_eq_some_iff.mp h2
  cases h4
  refine ⟨Γ, ad, E, d, E1, ok, h1, fun v H' fr ok' sim r => ?_⟩
  cases d with
  | str z =>
    cases h3
    obtain ⟨e, hl⟩ := r.str
    subst e
    have lz : (z.cps.toList.map fun c => PyData.str ⟨#[c]⟩).length = z.cps.size := by rw [List.length_map, Array.length_toList]
    refine ⟨z, rfl, q _ _ _ _ H' fr ok' sim walk_str lz.symm ⟨by rw [lz]; exact hl, fun H2 A2 g hA => ⟨trivial, fun i x H3 d hd y => ?_⟩⟩⟩
    obtain ⟨e, c, hc, y⟩ := y
    subst e y
    rw [List.getElem?_map] at hd
    obtain ⟨c', h1, h2⟩ := Option.map_eq_some_iff.mp hd
    rw [Array.getElem?_toList, hc] at h1
    cases h1
    subst h2
    exact ⟨Frm.refl, rep_str (by show 1 ≤ sizeLine; decide)⟩
  | _ => cases h3
/-- range(n), range(a, b) -/
def rngD (lo : Int) (n : Nat) : List PyData := (List.range n).map fun i => .int (lo + (i : Nat))
def itR (lo hi : Int) : Option (List PyData) := if -(2 ^ 62) ≤ lo ∧ lo < 2 ^ 62 ∧ -(2 ^ 62) ≤ hi ∧ hi < 2 ^ 62 ∧ (hi - lo).toNat ≤ sizeLine then some (rngD lo (hi - lo).toNat) else none
def itR1 : List PyData → Option (List PyData)
  | [.int n] => itR 0 n
  | _ => none
def itR2 : List PyData → Option (List PyData)
  | [.int m, .int n] => itR m n
  | _ => none
theorem its_range {K : PySem.W.Frag} {H : Hp} {A : Addr → Prop} {lo : Int} {n : Nat} (hn : n ≤ sizeLine) : Its' K H A (rngD lo n) (fun _ => True) (YFn fun i => .int (lo + i)) := by
  refine ⟨by unfold rngD; rw [List.length_map, List.length_range]; exact hn, fun H2 A2 g hA => ⟨trivial, fun i x H3 d hd y => ?_⟩⟩
  obtain ⟨e, y⟩ := y
  subst e y
  unfold rngD at hd
  rw [List.getElem?_map] at hd
  obtain ⟨j, h1, h2⟩ := Option.map_eq_some_iff.mp hd
  have hj : j = i := by
    obtain ⟨hl, e⟩ := List.getElem?_eq_some_iff.mp h1
    rw [List.getElem_range] at e
    exact e.symm
  subst hj h2
  exact ⟨Frm.refl, rep_int⟩
theorem len_rng (lo : Int) (n : Nat) : (rngD lo n).length = n := by unfold rngD; rw [List.length_map, List.length_range]
theorem di_rng1 {p : Pos} (hg : Gl X "range") (hm : X.mg "range" = none) (ha : PA X [a] (aD X.K io fr)) (hs : starEach [a] X.env = [(false, eval a X.env)] := by rfl) : PI X tg (.Call (.Name "range" p) [a] [] pos) (iD X.K io (fB itR1 fr)) :=
  (pi_range1 hg hm ha hs).imp fun σ H R w => by
    obtain ⟨Γ, ad, E, ds, E', ok, he, q⟩ := w
    obtain ⟨⟨gs, E1⟩, h1, h2⟩ := Option.bind_eq_some_iff.mp he
    obtain ⟨ds', h3, h4⟩ := Option.bind_eq_some_iff.mp h2
    obtain ⟨z, h5, h6⟩ := Option.map_eq_some_iff.mp h4
    cases h6
    refine ⟨Γ, ad, E, gs, E1, ok, h1, fun vs H' fr ok' sim r => ?_⟩
    have rs := res_rep ok' h3 (by rw [sim.Ao]; exact r)
    unfold itR1 at h5
    split at h5
    · rename_i n
      unfold itR at h5
      split at h5
      · rename_i hb
        cases h5
        obtain ⟨v, e1, r⟩ := rs.one
        cases r.int
        subst e1
        have e0 : (n - 0).toNat = n.toNat := by omega
        rw [e0] at q hb
        exact ⟨n, rfl, hb.2.2.1, hb.2.2.2.1, q _ _ _ _ H' fr ok' sim walk_range (len_rng _ _).symm (its_range hb.2.2.2.2)⟩
      · cases h5
    · cases h5
theorem di_rng2 {p : Pos} (hg : Gl X "range") (hm : X.mg "range" = none) (ha : PA X [a, b] (aD X.K io fr)) (hs : starEach [a, b] X.env = [(false, eval a X.env), (false, eval b X.env)] := by rfl) (hs2 : starEach [b] X.env = [(false, eval b X.env)] := by rfl) :
    PI X tg (.Call (.Name "range" p) [a, b] [] pos) (iD X.K io (fB itR2 fr)) :=
  (pi_range2 hg hm ha hs hs2).imp fun σ H R w => by
    obtain ⟨Γ, ad, E, ds, E', ok, he, q⟩ := w
    obtain ⟨⟨gs, E1⟩, h1, h2⟩ := Option.bind_eq_some_iff.mp he
    obtain ⟨ds', h3, h4⟩ := Option.bind_eq_some_iff.mp h2
    obtain ⟨z, h5, h6⟩ := Option.map_eq_some_iff.mp h4
    cases h6
    refine ⟨Γ, ad, E, gs, E1, ok, h1, fun vs H' fr ok' sim r => ?_⟩
    have rs := res_rep ok' h3 (by rw [sim.Ao]; exact r)
    unfold itR2 at h5
    split at h5
    · rename_i m n
      unfold itR at h5
      split at h5
      · rename_i hb
        cases h5
        obtain ⟨v, u, e1, r, r2⟩ := rs.two
        cases r.int
        cases r2.int
        subst e1
        exact ⟨m, n, rfl, ⟨hb.1, hb.2.1, hb.2.2.1, hb.2.2.2.1⟩, q _ _ _ _ H' fr ok' sim walk_range (len_rng _ _).symm (its_range hb.2.2.2.2)⟩
      · cases h5
    · cases h5
/-! ### for -/
def forL (τ : Tf) (body : Sf) : List PyData → Env' → Option O
  | [], E => some (.nx E)
  | d :: ds, E => (τ d).bind fun as => (body (setE E as)).bind fun o => match o with
    | .nx E' => forL τ body ds E'
    | .ct E' => forL τ body ds E'
    | .bk E' => some (.nx E')
    | .rt v E' => some (.rt v E')
def sFor (fl : Lf) (τ : Tf) (body : Sf) : Sf := fun E => (fl E).bind fun r => forL τ body r.1 r.2
theorem drop_at {α : Type} {l : List α} {i : Nat} {d : α} (h : l[i]? = some d) : l.drop i = d :: l.drop (i + 1) := by
  obtain ⟨hl, e⟩ := List.getElem?_eq_some_iff.mp h
  rw [List.drop_eq_getElem_cons hl, e]
theorem sD_for {fl : Lf} {τ : Tf} (ht : TOk io τ) {Dn : Ends} {σ : L2.St} {H : Hp} (w : sD K io (sFor fl τ f) Dn σ H) : tFor (iD K io fl) (gD K τ) (sD K io f) Dn σ H := by
  obtain ⟨Γ, ad0, E0, o, ok0, he, p⟩ := w
  obtain ⟨⟨ds, E1⟩, h1, h2⟩ := Option.bind_eq_some_iff.mp he
  refine ⟨Γ, ad0, E0, ds, E1, ok0, h1, fun J n G Y H1 fr ok1 sim wk hn its => ?_⟩
  have s1 : Step Γ io ad0 E0 H ad0 E1 H1 := Step.sim fr sim
  refine for_it wk (fun i σ' H' => ∃ ad E, EOk K Γ io ad σ' H' E ∧ Step Γ io ad0 E1 H1 ad E H' ∧ forL τ f (ds.drop i) E = some o) ⟨ad0, E1, ok1, Step.sim Frm.refl (Sim.refl _), h2⟩ ?_ ?_ ?_
  · rintro i σ' H' hi ⟨ad, E, ok, s, e⟩
    exact (its.at_ H' _ (s.go ok.w) ok.on).1
  · rintro i x σ' H' H'' hi ⟨ad, E, ok, s, e⟩ y
    obtain ⟨d, hd⟩ : ∃ d, ds[i]? = some d := ⟨ds[i]'(by omega), List.getElem?_eq_getElem (by omega)⟩
    obtain ⟨fr2, r⟩ := (its.at_ H' _ (s.go ok.w) ok.on).2 i x H'' d hd y
    rw [drop_at hd] at e
    obtain ⟨as, h3, h4⟩ := Option.bind_eq_some_iff.mp e
    obtain ⟨o1, h5, h6⟩ := Option.bind_eq_some_iff.mp h4
    refine ⟨Ao Γ io ad E, d, as, r, h3, fun ws hw => ?_⟩
    have okn := ok.new fr2
    obtain ⟨ok2, sub⟩ := okn.sets (ht d as h3) hw
    have s2 : Step Γ io ad E H' ad (setE E as) H'' := ⟨fr2.of0, fun a h => .inl (sub a h), fun _ _ => rfl⟩
    have s3 := s.trans s2
    refine ⟨Γ, ad, setE E as, o1, ok2, h5, ?_⟩
    cases o1 with
    | nx E' => exact fun σ3 H3 ad3 s4 ok3 => ⟨ad3, E', ok3, s3.trans s4, h6⟩
    | ct E' => exact fun σ3 H3 ad3 s4 ok3 => ⟨ad3, E', ok3, s3.trans s4, h6⟩
    | bk E' => cases h6; exact fun σ3 H3 ad3 s4 ok3 => p σ3 H3 ad3 (s1.trans (s3.trans s4)) ok3
    | rt v E' => cases h6; exact fun u σ3 H3 ad3 s4 ok3 r3 => p u σ3 H3 ad3 (s1.trans (s3.trans s4)) ok3 r3
  · rintro σ' H' ⟨ad, E, ok, s, e⟩
    rw [hn, List.drop_length] at e
    cases e
    exact p σ' H' ad (s1.trans s) ok
theorem ds_for {fl : Lf} {τ : Tf} (ht : TOk io τ) (hp : PassesOwn (model X.prog X.w) X.A X.env X.xe) (hc : X.calm = true) (hi : PI X tg a (iD X.K io fl)) (hg : PG X tg (gD X.K τ)) (hb : PSs X sts (sD X.K io f))
    (hs : ∀ x, foldedSetIterable a X.env x = pure x := by intro _; rfl) : PS X (.For tg a sts [] pos) (sD X.K io (sFor fl τ f)) := (ps_for hp hc hi hg hb hs).imp fun Dn σ H w => sD_for ht w
/-! ### while -/
def whL (gc : Ev Bool) (body : Sf) : Nat → Env' → Option O
  | 0, _ => none
  | n + 1, E => (gc E).bind fun r => if r.1 = true then (body r.2).bind fun o => match o with
    | .nx E' => whL gc body n E'
    | .ct E' => whL gc body n E'
    | .bk E' => some (.nx E')
    | .rt v E' => some (.rt v E')
    else some (.nx r.2)
theorem ds_while {n : Nat} (hp : PassesOwn (model X.prog X.w) X.A X.env X.xe) (hc : PT X c (cD X.K io ga)) (hb : PSs X sts (sD X.K io f)) : PS X (.While c sts [] pos) (sD X.K io (whL ga f n)) := (ps_while hp hc hb).imp fun Dn σ H w => by
  obtain ⟨Γ, ad0, E0, o, ok0, he, p⟩ := w
  refine ⟨fun m σ' H' => ∃ ad E, EOk X.K Γ io ad σ' H' E ∧ Step Γ io ad0 E0 H ad E H' ∧ whL ga f m E = some o, ⟨n, ad0, E0, ok0, Step.sim Frm.refl (Sim.refl _), he⟩, ?_⟩
  rintro m σ' H' ⟨ad, E, ok, s, e⟩
  cases m with
  | zero => cases e
  | succ m =>
    obtain ⟨⟨k, E1⟩, h1, h2⟩ := Option.bind_eq_some_iff.mp e
    refine ⟨Γ, ad, E, k, E1, ok, h1, fun v H1 fr ok1 sim r => ?_⟩
    cases r
    have s1 := s.trans (Step.sim fr sim)
    cases k with
    | false =>
      cases h2
      exact p σ' H1 ad s1 ok1
    | true =>
      obtain ⟨o1, h3, h4⟩ := Option.bind_eq_some_iff.mp h2
      refine ⟨fun σ2 H2 => ∃ ad E, EOk X.K Γ io ad σ2 H2 E ∧ Step Γ io ad0 E0 H ad E H2 ∧ whL ga f m E = some o, fun σ2 H2 q => ⟨m, Nat.lt_succ_self m, q⟩, Γ, ad, E1, o1, ok1, h3, ?_⟩
      cases o1 with
      | nx E' => exact fun σ3 H3 ad3 s4 ok3 => ⟨ad3, E', ok3, s1.trans s4, h4⟩
      | ct E' => exact fun σ3 H3 ad3 s4 ok3 => ⟨ad3, E', ok3, s1.trans s4, h4⟩
      | bk E' => cases h4; exact fun σ3 H3 ad3 s4 ok3 => p σ3 H3 ad3 (s1.trans s4) ok3
      | rt v E' => cases h4; exact fun u σ3 H3 ad3 s4 ok3 r3 => p u σ3 H3 ad3 (s1.trans s4) ok3 r3
/-! ### list comprehensions -/
def wipeE (E : Env') : List Nat → Env'
  | [] => E
  | v :: vs => (wipeE E vs).set v B.u
def isOwn : Option B → Bool
  | some (B.o _) => true
  | _ => false
/-- the slots vs as they were in E, the others as in E' -/
def backE (E E' : Env') : List Nat → Env'
  | [] => E'
  | v :: vs => match E[v]? with
    | some b => (backE E E' vs).set v b
    | none => backE E E' vs
def lcL (vs : List Nat) (τ : Tf) (gt : Ev Bool) (fe : Ef) : List PyData → Env' → Option (List PyData × Env')
  | [], E => some ([], E)
  | d :: ds, E => (τ d).bind fun as => (gt (setE E as)).bind fun r => if r.1 = true then (fe r.2).bind fun s => (lcL vs τ gt fe ds (wipeE s.2 vs)).map fun t => (s.1 :: t.1, t.2)
    else lcL vs τ gt fe ds (wipeE r.2 vs)
def fLc (vs : List Nat) (fl : Lf) (τ : Tf) (gt : Ev Bool) (fe : Ef) : Lf := fun E => (fl E).bind fun r => if vs.any (fun i => isOwn r.2[i]?) then none else (lcL vs τ gt fe r.1 (wipeE r.2 vs)).map fun t => (t.1, backE r.2 t.2 vs)
def gYes : Ev Bool := fun E => some (true, E)
theorem dts_nil : PTs X [] (cD X.K io gYes) := ⟨fun pins s σ H Q I w => pts_nil.run pins s σ H Q I (by
  obtain ⟨Γ, ad, E, d, E', ok, he, q⟩ := w
  cases he
  exact q true H Frm.refl ok (Sim.refl E) rfl)⟩
theorem dts_one (h : PT X c (cD X.K io ga)) : PTs X [c] (cD X.K io ga) := pts_one h
theorem wipe_get {vs : List Nat} {E : Env'} {j : Nat} : (wipeE E vs)[j]? = if j ∈ vs then E[j]?.map fun _ => B.u else E[j]? := by
  induction vs with
  | nil => simp [wipeE]
  | cons v vs ih =>
    show ((wipeE E vs).set v B.u)[j]? = _
    rw [List.getElem?_set]
    by_cases h : v = j
    · subst h
      rw [if_pos rfl]
      have hl : (wipeE E vs).length = E.length := by
        clear ih
        induction vs with
        | nil => rfl
        | cons w ws ih => show ((wipeE E ws).set w B.u).length = _; rw [List.length_set]; exact ih
      rw [hl]
      rw [if_pos List.mem_cons_self]
      by_cases q : v < E.length
      · rw [if_pos q, List.getElem?_eq_getElem q] <;> rfl
      · rw [if_neg q, List.getElem?_eq_none (by omega)] <;> rfl
    · rw [if_neg h, ih]
      have : (j ∈ v :: vs) ↔ j ∈ vs := by simp [Ne.symm h]
      by_cases q : j ∈ vs
      · rw [if_pos q, if_pos (this.mpr q)]
      · rw [if_neg q, if_neg (fun z => q (this.mp z))]
theorem wipeE_length {vs : List Nat} {E : Env'} : (wipeE E vs).length = E.length := by
  induction vs with
  | nil => rfl
  | cons w ws ih => show ((wipeE E ws).set w B.u).length = _; rw [List.length_set]; exact ih
theorem wipeS_get {vs : List Nat} {σ : L2.St} {j : Nat} (h : j ∉ vs) : (wipe σ vs)[j]? = σ[j]? := wipe_out h
/-- the slots vs forgotten: none of them an own object's -/
theorem EOk.wipe {Γ : Gm} {ad : Nat → Addr} {σ : L2.St} {H : Hp} {E : Env'} (ok : EOk K Γ io ad σ H E) {vs : List Nat} (hv : ∀ i ∈ vs, isOwn E[i]? = false) : EOk K Γ io ad (L2.wipe σ vs) H (wipeE E vs) ∧ Ao Γ io ad (wipeE E vs) = Ao Γ io ad E ∧ Wo Γ io ad (wipeE E vs) = Wo Γ io ad E := by
  have own : ∀ (j : Nat) (m : M), (wipeE E vs)[j]? = some (B.o m) ↔ E[j]? = some (B.o m) := fun j m => by
    rw [wipe_get]
    by_cases q : j ∈ vs
    · rw [if_pos q]
      constructor
      · intro z
        cases h : E[j]? with
        | none => rw [h] at z; cases z
        | some b => rw [h] at z; cases z
      · intro z
        have := hv j q
        rw [z] at this
        cases this
    · rw [if_neg q]
  have nin : ∀ (j : Nat) (m : M), E[j]? = some (B.o m) → j ∉ vs := fun j m z q => by
    have := hv j q
    rw [z] at this
    cases this
  have eo : Own io ad (wipeE E vs) = Own io ad E := by
    funext a
    exact propext ⟨fun ⟨i, m, h1, h2, h3⟩ => ⟨i, m, h1, (own i m).mp h2, h3⟩, fun ⟨i, m, h1, h2, h3⟩ => ⟨i, m, h1, (own i m).mpr h2, h3⟩⟩
  have ea : Ao Γ io ad (wipeE E vs) = Ao Γ io ad E := by funext a; unfold DL.Ao; rw [eo]
  have ew : Wo Γ io ad (wipeE E vs) = Wo Γ io ad E := by funext a; unfold DL.Wo; rw [eo]
  refine ⟨⟨by rw [wipe_length, wipeE_length]; exact ok.len, ok.w, ok.oA, ok.hk, fun j d z => ?_, fun j m z => ?_, fun j m z => ok.obi j m ((own j m).mp z), fun j m z => ok.obn j m ((own j m).mp z), fun j k m m' z1 z2 => ok.inj j k m m' ((own j m).mp z1) ((own k m').mp z2)⟩, ea, ew⟩
  · rw [wipe_get] at z
    by_cases q : j ∈ vs
    · rw [if_pos q] at z
      cases h : E[j]? with
      | none => rw [h] at z; cases z
      | some b => rw [h] at z; cases z
    · rw [if_neg q] at z
      obtain ⟨v, h1, h2⟩ := ok.vl j d z
      exact ⟨v, by rw [wipe_out q]; exact h1, by rw [ea]; exact h2⟩
  · have z' := (own j m).mp z
    obtain ⟨h1, h2⟩ := ok.ob j m z'
    exact ⟨by rw [wipe_out (nin j m z')]; exact h1, by rw [ea]; exact h2⟩
end
end DL

namespace DL
open PySem PySem.Spec PyProof.Rows L2

/-- the slots of a target are among vs -/
def TIn (vs : List Nat) (τ : Tf) : Prop := ∀ d as, τ d = some as → ∀ p ∈ as, p.1 ∈ vs
def TsIn (vs : List Nat) (τ : List PyData → Option (List (Nat × PyData))) : Prop := ∀ d as, τ d = some as → ∀ p ∈ as, p.1 ∈ vs
theorem tin_n {vs : List Nat} {i : Nat} (h : i ∈ vs) : TIn vs (τN i) := fun d as e p hp => by cases e; cases List.mem_singleton.mp hp; exact h
theorem tin_nil {vs : List Nat} : TsIn vs τNil := fun d as e p hp => by
  cases d with
  | nil => cases e; cases hp
  | cons _ _ => cases e
theorem tin_cons {vs : List Nat} {t : Tf} {u : List PyData → Option (List (Nat × PyData))} (h1 : TIn vs t) (h2 : TsIn vs u) : TsIn vs (τCons t u) := fun d as e p hp => by
  cases d with
  | nil => cases e
  | cons d ds =>
    obtain ⟨x, h3, h4⟩ := Option.bind_eq_some_iff.mp e
    obtain ⟨y, h5, h6⟩ := Option.map_eq_some_iff.mp h4
    subst h6
    rcases List.mem_append.mp hp with h | h
    · exact h1 d x h3 p h
    · exact h2 ds y h5 p h
theorem tin_t {vs : List Nat} {u : List PyData → Option (List (Nat × PyData))} {n : Nat} (h2 : TsIn vs u) : TIn vs (τT n u) := fun d as e p hp => by
  unfold τT at e
  split at e
  · split at e
    · exact h2 _ as e p hp
    · cases e
  · cases e
theorem wipe_set {vs : List Nat} {σ : L2.St} {i : Nat} {x : Option V} (h : i ∈ vs) : wipe (σ.set i x) vs = wipe σ vs := by
  induction vs with
  | nil => cases h
  | cons v vs ih =>
    show (wipe (σ.set i x) vs).set v none = (wipe σ vs).set v none
    by_cases q : i ∈ vs
    · rw [ih q]
    · have e : i = v := by
        rcases List.mem_cons.mp h with h | h
        · exact h
        · exact absurd h q
      subst e
      have : ∀ (ws : List Nat) (τ : L2.St), (wipe (τ.set i x) ws).set i none = (wipe τ ws).set i none := by
        intro ws
        induction ws with
        | nil => intro τ; show (τ.set i x).set i none = τ.set i none; rw [List.set_set]
        | cons w ws ih =>
          intro τ
          show ((wipe (τ.set i x) ws).set w none).set i none = ((wipe τ ws).set w none).set i none
          by_cases e : w = i
          · subst e; rw [List.set_set, List.set_set]; exact ih τ
          · rw [List.set_comm _ _ e, List.set_comm _ _ e, ih τ]
      exact this vs σ
theorem wipe_setS {vs : List Nat} : ∀ {ws : List (Nat × V)} {σ : L2.St}, (∀ p ∈ ws, p.1 ∈ vs) → wipe (setS σ ws) vs = wipe σ vs
  | [], _, _ => rfl
  | p :: ws, σ, h => by
    show wipe (setS (σ.set p.1 (some p.2)) ws) vs = _
    rw [wipe_setS fun q hq => h q (List.mem_cons_of_mem _ hq), wipe_set (h p List.mem_cons_self)]
theorem wipe_wipe (vs : List Nat) (σ : L2.St) : wipe (wipe σ vs) vs = wipe σ vs := by
  have : ∀ (us ws : List Nat) (σ : L2.St), (∀ u ∈ us, u ∈ ws) → wipe (wipe σ us) ws = wipe σ ws := by
    intro us
    induction us with
    | nil => intro ws σ _; rfl
    | cons u us ih =>
      intro ws σ h
      show wipe ((wipe σ us).set u none) ws = _
      rw [wipe_set (h u List.mem_cons_self)]
      exact ih ws σ fun v hv => h v (List.mem_cons_of_mem _ hv)
  exact this vs vs σ fun _ h => h
theorem setR_slots {K : PySem.W.Frag} {H : Hp} {A : Addr → Prop} {vs : List Nat} : ∀ {as : List (Nat × PyData)} {ws : List (Nat × V)}, SetR K H A as ws → (∀ p ∈ as, p.1 ∈ vs) → ∀ p ∈ ws, p.1 ∈ vs
  | [], ws, h, _, p, hp => by unfold SetR at h; subst h; cases hp
  | a :: as, ws, h, ha, p, hp => by
    obtain ⟨v, r, e, _, h2⟩ := h
    subst e
    rcases List.mem_cons.mp hp with e | hp
    · subst e; exact ha a List.mem_cons_self
    · exact setR_slots h2 (fun q hq => ha q (List.mem_cons_of_mem _ hq)) p hp
theorem setE_out {vs : List Nat} {j : Nat} (hj : j ∉ vs) : ∀ {as : List (Nat × PyData)} {E : Env'}, (∀ p ∈ as, p.1 ∈ vs) → (setE E as)[j]? = E[j]?
  | [], _, _ => rfl
  | a :: as, E, ha => by
    show (setE (E.set a.1 (B.v a.2)) as)[j]? = _
    rw [setE_out hj fun q hq => ha q (List.mem_cons_of_mem _ hq), List.getElem?_set_ne (show a.1 ≠ j from fun e => hj (by rw [← e]; exact ha a List.mem_cons_self))]
theorem setE_length : ∀ {as : List (Nat × PyData)} {E : Env'}, (setE E as).length = E.length
  | [], _ => rfl
  | a :: as, E => by
    show (setE (E.set a.1 (B.v a.2)) as).length = _
    rw [setE_length, List.length_set]
theorem setE_own {j : Nat} : ∀ {as : List (Nat × PyData)} {E : Env'}, isOwn E[j]? = false → isOwn (setE E as)[j]? = false
  | [], _, h => h
  | a :: as, E, h => by
    show isOwn (setE (E.set a.1 (B.v a.2)) as)[j]? = false
    refine setE_own ?_
    rw [List.getElem?_set]
    by_cases e : a.1 = j
    · rw [if_pos e]
      by_cases q : a.1 < E.length
      · rw [if_pos q] <;> rfl
      · rw [if_neg q] <;> rfl
    · rw [if_neg e]; exact h
theorem Sim.isOwn {E E' : Env'} (s : Sim E E') {j : Nat} (h : DL.isOwn E[j]? = false) : DL.isOwn E'[j]? = false := by
  rcases s.2 j with ⟨m, m', h1, h2⟩ | ⟨h1, h2⟩
  · rw [h1] at h; cases h
  · rw [h2]; exact h
section
variable {X : Cx} {K : PySem.W.Frag} {io : List Nat} {a b c e x tg elt iter : Expr} {ifs es : List Expr} {fa fb fe : Ef} {fr : Af} {ga gt : Ev Bool} {pos : Pos} {f g h : Sf} {st : Stmt} {sts : List Stmt}
/-- what is another's changes -/
theorem EOk.putA {Γ : Gm} {ad : Nat → Addr} {σ : L2.St} {H : Hp} {E : Env'} (ok : EOk K Γ io ad σ H E) {p : Addr} (hA : Γ.A p) (hW : ¬ Γ.W p) {o : HO} : EOk K Γ io ad σ (upd H p o) E ∧ Go H (Ao Γ io ad E) (upd H p o) (Ao Γ io ad E) := by
  have f : Frm (fun a => a = p) H (upd H p o) := Frm.put rfl
  have g : Go H (Ao Γ io ad E) (upd H p o) (Ao Γ io ad E) := Go.frm f fun a h => by subst h; exact .inl hA
  have ne : ∀ (i : Nat) (m : M), E[i]? = some (B.o m) → ad i ≠ p := fun i m h e => by
    by_cases q : i ∈ io
    · exact hW (e ▸ ok.obi i m h q)
    · exact (ok.obn i m h q).2 (e ▸ hA)
  refine ⟨⟨ok.len, ok.w, fun a h => f.on a (ok.oA a h), fun a h => f.on a (ok.hk a h), fun i d h => ?_, fun i m h => ?_, ok.obi, ok.obn, ok.inj⟩, g⟩
  · obtain ⟨v, h1, h2⟩ := ok.vl i d h
    exact ⟨v, h1, g.rep d v h2⟩
  · obtain ⟨h1, h2⟩ := ok.ob i m h
    refine ⟨h1, ?_⟩
    cases m with
    | lst xs => obtain ⟨ws, z, z1, z2⟩ := h2; exact ⟨ws, by rw [upd_ne (ne i _ h)]; exact z, z1, g.repL xs ws z2⟩
theorem backE_get {E E' : Env'} (hl : E'.length = E.length) : ∀ {vs : List Nat} {j : Nat}, (backE E E' vs)[j]? = if j ∈ vs then E[j]? else E'[j]? := by
  intro vs
  induction vs with
  | nil => intro j; simp [backE]
  | cons v vs ih =>
    intro j
    have len : ∀ us : List Nat, (backE E E' us).length = E.length := by
      intro us
      induction us with
      | nil => exact hl
      | cons u us ih2 =>
        unfold backE
        split
        · rw [List.length_set]; exact ih2
        · exact ih2
    have mem : (j ∈ v :: vs) ↔ (j = v ∨ j ∈ vs) := by simp
    unfold backE
    split
    · rename_i b hb
      rw [List.getElem?_set, len vs]
      by_cases e : v = j
      · subst e
        have hv : v < E.length := (List.getElem?_eq_some_iff.mp hb).1
        rw [if_pos rfl, if_pos hv, if_pos List.mem_cons_self, hb]
      · rw [if_neg e, ih]
        by_cases q : j ∈ vs
        · rw [if_pos q, if_pos (mem.mpr (.inr q))]
        · rw [if_neg q, if_neg fun z => (mem.mp z).elim (fun z => e z.symm) q]
    · rename_i hb
      rw [ih]
      by_cases q : j ∈ vs
      · rw [if_pos q, if_pos (mem.mpr (.inr q))]
      · by_cases e : j = v
        · subst e
          rw [if_neg q, if_pos List.mem_cons_self, hb]
          exact List.getElem?_eq_none (by rw [hl]; exact List.getElem?_eq_none_iff.mp hb)
        · rw [if_neg q, if_neg fun z => (mem.mp z).elim e q]
theorem backE_length {E E' : Env'} (hl : E'.length = E.length) : ∀ (us : List Nat), (backE E E' us).length = E.length := by
  intro us
  induction us with
  | nil => exact hl
  | cons u us ih2 =>
    unfold backE
    split
    · rw [List.length_set]; exact ih2
    · exact ih2
theorem lc_sound {fl : Lf} {τ : Tf} {vs : List Nat} (ht : TOk io τ) (hv : TIn vs τ) {σ : L2.St} {H : Hp} {Q : VK} (w : lD K io (fLc vs fl τ gt fe) σ H Q) : tLc (iD K io fl) (gD K τ) (cD K io gt) (tD K io fe) vs σ H Q := by
  obtain ⟨Γ, ad, E0, ys, E', ok0, he, q⟩ := w
  obtain ⟨⟨ds, E1⟩, h1, h2⟩ := Option.bind_eq_some_iff.mp he
  split at h2
  · cases h2
  rename_i hno
  obtain ⟨⟨ys', Et⟩, h3, h4⟩ := Option.map_eq_some_iff.mp h2
  cases h4
  have hno' : ∀ i ∈ vs, isOwn E1[i]? = false := fun i hi => by
    cases z : isOwn E1[i]? with
    | false => rfl
    | true => exact absurd (List.any_eq_true.mpr ⟨i, hi, z⟩) hno
  refine ⟨Γ, ad, E0, ds, E1, ok0, h1, fun J n G Y H1 fr1 ok1 sim1 wk hn its D hD => ?_⟩
  have nW : ¬ Γ.W D := fun z => ok1.oA D (ok1.w D z) hD
  have nA1 : ¬ Ao Γ io ad E1 D := fun z => ok1.on D z hD
  obtain ⟨okD, gD0⟩ := ok1.with hD (vs := [])
  obtain ⟨okw, eAw, eWw⟩ := okD.wipe hno'
  have simW : ∀ {Ew : Env'}, Sim (wipeE E1 vs) Ew → Ao (Γ.with D) io ad Ew = Ao (Γ.with D) io ad E1 := fun s => by rw [s.Ao, eAw]
  have simWo : ∀ {Ew : Env'}, Sim (wipeE E1 vs) Ew → Wo (Γ.with D) io ad Ew = Wo Γ io ad E1 := fun s => by rw [s.Wo, eWw]; rfl
  have goD : ∀ {H'}, Frm (Wo Γ io ad E1) H1 H' → Go H1 (Ao Γ io ad E1) H' (Ao (Γ.with D) io ad E1) := fun f => ⟨fun a o h n => f.eq a o h fun z => n (ok1.wa a z), fun a h => by
    rcases h with (h | h) | h
    · exact .inl (.inl h)
    · subst h; exact .inr hD
    · exact .inl (.inr h)⟩
  refine lc_it wk (fun i H' => ∃ Ew accV accD rest, EOk K (Γ.with D) io ad (wipe σ vs) H' Ew ∧ Sim (wipeE E1 vs) Ew ∧ Frm (Wo Γ io ad E1) H1 H' ∧ H' D = some (.lst accV) ∧ RepL K H' (Ao (Γ.with D) io ad E1) accD accV ∧ accV.length ≤ i ∧
      lcL vs τ gt fe (ds.drop i) Ew = some (rest, Et) ∧ accD ++ rest = ys') ⟨_, [], [], ys', okw, Sim.refl _, (Frm.new hD).of0, upd_same, repL_nil, Nat.le_refl _, h3, rfl⟩ ?_ ?_ ?_
  · rintro i H' hi ⟨Ew, accV, accD, rest, ok, sim, fr, hd, r, hl, e1, e2⟩
    refine (its.at_ H' _ (by have g := goD fr; rw [← simW sim] at g; exact g) ok.on).1
  · rintro i x H' H'' hi ⟨Ew, accV, accD, rest, ok, sim, fr, hd, r, hl, e1, e2⟩ y
    obtain ⟨d, hdd⟩ : ∃ d, ds[i]? = some d := ⟨ds[i]'(by omega), List.getElem?_eq_getElem (by omega)⟩
    obtain ⟨fr2, rd'⟩ := (its.at_ H' _ (by have g := goD fr; rw [← simW sim] at g; exact g) ok.on).2 i x H'' d hdd y
    rw [drop_at hdd] at e1
    obtain ⟨as, h5, h6⟩ := Option.bind_eq_some_iff.mp e1
    obtain ⟨⟨k, E2⟩, h7, h8⟩ := Option.bind_eq_some_iff.mp h6
    refine ⟨_, d, as, rd', h5, fun ws hw => ?_⟩
    have inv := hv d as h5
    have ewp : wipe (setS (wipe σ vs) ws) vs = wipe σ vs := by rw [wipe_setS (setR_slots hw inv), wipe_wipe]
    refine ⟨ewp, ?_⟩
    obtain ⟨ok2, sub⟩ := (ok.new fr2).sets (ht d as h5) hw
    have uW : ∀ j ∈ vs, isOwn Ew[j]? = false := fun j hj => sim.isOwn (by
      rw [wipe_get, if_pos hj]
      cases E1[j]? <;> rfl)
    have uS : ∀ j ∈ vs, isOwn (setE Ew as)[j]? = false := fun j hj => setE_own (uW j hj)
    have oS : Own io ad (setE Ew as) = Own io ad Ew := by
      funext a
      refine propext ⟨sub a, fun ⟨j, m, q1, q2, q3⟩ => ⟨j, m, q1, ?_, q3⟩⟩
      have : j ∉ vs := fun z => by have := uW j z; rw [q2] at this; cases this
      rw [setE_out this inv]
      exact q2
    have aS : Ao (Γ.with D) io ad (setE Ew as) = Ao (Γ.with D) io ad E1 := by
      rw [← simW sim]; funext a; unfold Ao; rw [oS]
    have wS : Wo (Γ.with D) io ad (setE Ew as) = Wo Γ io ad E1 := by
      rw [← simWo sim]; funext a; unfold Wo; rw [oS]
    have nWo : ∀ {E3 : Env'}, Wo (Γ.with D) io ad E3 = Wo Γ io ad E1 → ¬ Wo (Γ.with D) io ad E3 D := fun e z => by
      rw [e] at z; exact nA1 (ok1.wa D z)
    -- the new state behind a turn
    have next : ∀ {E3 : Env'}, Sim (setE Ew as) E3 → Sim (wipeE E1 vs) (wipeE E3 vs) := fun {E3} s3 => by
      refine ⟨?_, fun j => ?_⟩
      · rw [wipeE_length, s3.1, setE_length, sim.1]
      · by_cases hj : j ∈ vs
        · refine .inr ⟨fun m z => ?_, ?_⟩
          · rw [wipe_get, if_pos hj] at z
            cases hz : E1[j]? with
            | none => rw [hz] at z; cases z
            | some b => rw [hz] at z; cases z
          · rw [wipe_get, wipe_get, if_pos hj, if_pos hj]
            have hl3 : E3.length = E1.length := by rw [s3.1, setE_length, sim.1, wipeE_length]
            by_cases q : j < E1.length
            · rw [List.getElem?_eq_getElem q, List.getElem?_eq_getElem (by omega)] <;> rfl
            · rw [List.getElem?_eq_none (by omega), List.getElem?_eq_none (by omega)] <;> rfl
        · have e0 := setE_out (E := Ew) hj inv
          rcases sim.2 j with ⟨m, m', q1, q2⟩ | ⟨q1, q2⟩
          · rcases s3.2 j with ⟨m2, m3, q3, q4⟩ | ⟨q3, q4⟩
            · exact .inl ⟨m, m3, q1, by rw [wipe_get, if_neg hj]; exact q4⟩
            · rw [e0, q2] at q3; exact absurd rfl (q3 m')
          · refine .inr ⟨q1, ?_⟩
            rw [wipe_get (E := E3), if_neg hj]
            rcases s3.2 j with ⟨m2, m3, q3, q4⟩ | ⟨q3, q4⟩
            · rw [e0, q2] at q3; exact absurd q3 (q1 m2)
            · rw [q4, e0, q2]
    refine ⟨Γ.with D, ad, setE Ew as, k, E2, ok2, h7, fun v H3 fr3 ok3 sim3 r3 => ?_⟩
    cases r3
    rw [wS] at fr3
    have fr13 := fr.trans' (fr2.of0.trans' fr3)
    have hd3 : H3 D = some (.lst accV) := fr3.eq D _ (fr2.eq D _ hd id) (fun z => nA1 (ok1.wa D z))
    have g3 : Go H' (Ao (Γ.with D) io ad E1) H3 (Ao (Γ.with D) io ad E1) := Go.frm (fr2.of0.trans' fr3) fun a z => (ok1.wa a z).elim (fun z => .inl (.inl z)) .inr
    cases k with
    | false =>
      have h8' : lcL vs τ gt fe (ds.drop (i + 1)) (wipeE E2 vs) = some (rest, Et) := h8
      obtain ⟨okn, _, _⟩ := ok3.wipe fun j hj => sim3.isOwn (uS j hj)
      rw [ewp] at okn
      exact ⟨_, accV, accD, rest, okn, next sim3, fr13, hd3, g3.repL _ _ r, by omega, h8', e2⟩
    | true =>
      have h8' : ((fe E2).bind fun s => (lcL vs τ gt fe (ds.drop (i + 1)) (wipeE s.2 vs)).map fun t => (s.1 :: t.1, t.2)) = some (rest, Et) := h8
      obtain ⟨⟨y', E3⟩, h9, h10⟩ := Option.bind_eq_some_iff.mp h8'
      obtain ⟨⟨rest', Et'⟩, h11, h12⟩ := Option.map_eq_some_iff.mp h10
      cases h12
      rw [if_pos rfl]
      refine ⟨Γ.with D, ad, E2, y', E3, ok3, h9, fun u H4 fr4 ok4 sim4 r4 => ?_⟩
      rw [sim3.Wo, wS] at fr4
      rw [sim3.Ao, aS] at r4
      have hd4 : H4 D = some (.lst accV) := fr4.eq D _ hd3 (fun z => nA1 (ok1.wa D z))
      have dl := its.len
      refine ⟨accV, hd4, by omega, ?_⟩
      have sim34 := sim3.trans sim4
      obtain ⟨okn, _, _⟩ := ok4.wipe fun j hj => sim34.isOwn (uS j hj)
      rw [ewp] at okn
      obtain ⟨okp, gp⟩ := okn.putA (p := D) (o := .lst (accV ++ [u])) (.inr rfl) nW
      rw [simW (next sim34)] at gp
      have g4 : Go H3 (Ao (Γ.with D) io ad E1) H4 (Ao (Γ.with D) io ad E1) := Go.frm fr4 fun a z => (ok1.wa a z).elim (fun z => .inl (.inl z)) .inr
      refine ⟨_, accV ++ [u], accD ++ [y'], rest', okp, next sim34, ?_, upd_same, ?_, by rw [List.length_append, List.length_singleton]; omega, h11, by rw [List.append_assoc]; exact e2⟩
      · refine ⟨fun a o h n => ?_, fun a h => upd_on ((fr13.trans' fr4).on a h)⟩
        have ne : a ≠ D := fun z => by subst z; rw [hD] at h; cases h
        rw [upd_ne ne]
        exact (fr13.trans' fr4).eq a o h n
      · exact gp.repL _ _ (((g4.repL _ _ (g3.repL _ _ r))).append (repL_cons r4 repL_nil))
  · rintro H' ⟨Ew, accV, accD, rest, ok, sim, fr, hd, r, hl, e1, e2⟩
    rw [hn, List.drop_length] at e1
    cases e1
    rw [List.append_nil] at e2
    subst e2
    have hlE : Et.length = E1.length := by rw [sim.1, wipeE_length]
    have simE : Sim E1 (backE E1 Et vs) := by
      refine ⟨backE_length hlE vs, fun j => ?_⟩
      rw [backE_get hlE]
      by_cases hj : j ∈ vs
      · rw [if_pos hj]
        exact (Sim.refl E1).2 j
      · rw [if_neg hj]
        have := sim.2 j
        rw [wipe_get, if_neg hj] at this
        exact this
    have aE : Ao (Γ.with D) io ad (backE E1 Et vs) = Ao (Γ.with D) io ad E1 := simE.Ao
    have g := goD fr
    have back : ∀ (j : Nat) (m : M), (backE E1 Et vs)[j]? = some (B.o m) → Et[j]? = some (B.o m) ∧ j ∉ vs := fun j m z => by
      rw [backE_get hlE] at z
      by_cases hj : j ∈ vs
      · rw [if_pos hj] at z
        have := hno' j hj
        rw [z] at this
        cases this
      · rw [if_neg hj] at z
        exact ⟨z, hj⟩
    refine q D accV H' (fr1.trans' (by rw [sim1.Wo] at fr; exact fr)) (frm_none fr1 hD) hd (Nat.le_trans hl (by rw [hn]; exact its.len)) ?_ (by rw [aE]; exact r) (sim1.trans simE)
    refine ⟨by rw [backE_length hlE]; exact ok1.len, ok.w, ok.oA, ok.hk, fun j d z => ?_, fun j m z => ?_, fun j m z => ok.obi j m (back j m z).1, fun j m z => ok.obn j m (back j m z).1, fun j k m m' z1 z2 => ok.inj j k m m' (back j m z1).1 (back k m' z2).1⟩
    · rw [backE_get hlE] at z
      rw [aE]
      by_cases hj : j ∈ vs
      · rw [if_pos hj] at z
        obtain ⟨v, q1, q2⟩ := ok1.vl j d z
        exact ⟨v, q1, g.rep d v q2⟩
      · rw [if_neg hj] at z
        obtain ⟨v, q1, q2⟩ := ok.vl j d z
        rw [wipe_out hj] at q1
        exact ⟨v, q1, by rw [simW sim] at q2; exact q2⟩
    · obtain ⟨z', hj⟩ := back j m z
      obtain ⟨q1, q2⟩ := ok.ob j m z'
      rw [wipe_out hj] at q1
      exact ⟨q1, by rw [aE, ← simW sim]; exact q2⟩
theorem ll_lc {fl : Lf} {τ : Tf} {scope : Scope} {own : List (Str × Nat)} (ht : TOk io τ) (hv : TIn (own.map (·.2)) τ) (hc : X.calm = true) (hN : X.N.Nodup) (hi : PI X tg iter (iD X.K io fl)) (ok : BlkOk X.N X.env.scope scope own)
    (hg : ∀ (s : Shared) (H : Hp) (C : Addr) (cl : List (Str × Addr)) (fp : List Addr), PG (X.blk s H scope (compEnvC scope cl C X.env) fp) tg (gD X.K τ)) (hts : ∀ (s : Shared) (H : Hp) (C : Addr) (cl : List (Str × Addr)) (fp : List Addr), PTs (X.blk s H scope (compEnvC scope cl C X.env) fp) ifs (cD X.K io gt))
    (he : ∀ (s : Shared) (H : Hp) (C : Addr) (cl : List (Str × Addr)) (fp : List Addr), PE (X.blk s H scope (compEnvC scope cl C X.env) fp) elt (tD X.K io fe)) (hs : ∀ x, foldedSetIterable iter X.env x = pure x := by intro _; rfl) :
    PE X (.ListComp elt [⟨tg, iter, ifs, 0⟩] scope pos) (lD X.K io (fLc (own.map (·.2)) fl τ gt fe)) := (pe_lc hc hN hi ok hg hts he hs).imp fun σ H Q w => lc_sound ht hv w
end
end DL

namespace DL
open PySem PySem.Spec PyProof.Rows L2

/-! ### defs -/
abbrev Fn := Env' → Option (PyData × Env')
def outs (io : List Nat) (E : Env') : Env' := io.map fun i => (E[i]?).getD B.u
/-- what a def promises: n parameters, those at io changed in place -/
def spF (K : PySem.W.Frag) (n : Nat) (io : List Nat) (fn : Fn) : Sp := fun vs H Q _ => ∃ Γ ad E r E', EOk K Γ io ad (vs.map some) H E ∧ E.length = n ∧ (∀ (i : Nat) (m : M), E[i]? = some (B.o m) → i ∈ io) ∧ fn E = some (r, E') ∧
  ∀ v H', Frm Γ.W H H' → (∀ (j k : Nat) (m : M), io[j]? = some k → E'[j]? = some (B.o m) → ObjD K H' Γ.A (ad k) m) → RepD K H' Γ.A r v → Q v H'
def bodyFn (io : List Nat) (pad : Nat) (f : Sf) : Fn := fun E => (f (E ++ List.replicate pad B.u)).bind fun o => match o with
  | .rt d E' => some (d, outs io E')
  | .nx E' => some (PyData.none, outs io E')
  | _ => none
section
variable {P : Program} {w : World} {K : PySem.W.Frag} {mg : Str → Option Value} {base : Heap} {x qual : Str} {params : Arguments} {body : List Stmt} {scope : Scope} {f : Addr} {fd : FuncData} {io : List Nat} {pad : Nat} {b : Sf}
theorem outs_at {E : Env'} {j k : Nat} {m : M} (h : io[j]? = some k) (e : (outs io E)[j]? = some (B.o m)) : E[k]? = some (B.o m) := by
  unfold outs at e
  rw [List.getElem?_map, h] at e
  have e' : (E[k]?).getD B.u = B.o m := Option.some.inj e
  cases q : E[k]? with
  | none => rw [q] at e'; cases e'
  | some b => rw [q] at e'; exact congrArg some e'
theorem EOk.padded {Γ : Gm} {ad : Nat → Addr} {σ : L2.St} {H : Hp} {E : Env'} (ok : EOk K Γ io ad σ H E) (n : Nat) : EOk K Γ io ad (σ ++ List.replicate n none) H (E ++ List.replicate n B.u) ∧ Own io ad (E ++ List.replicate n B.u) = Own io ad E := by
  have at_ : ∀ (j : Nat) (b : B), b ≠ B.u → (E ++ List.replicate n B.u)[j]? = some b → E[j]? = some b := fun j b nb z => by
    by_cases q : j < E.length
    · rw [List.getElem?_append_left q] at z; exact z
    · rw [List.getElem?_append_right (by omega), List.getElem?_replicate] at z
      split at z
      · cases z; exact absurd rfl nb
      · cases z
  have at' : ∀ (j : Nat) (b : B), E[j]? = some b → (E ++ List.replicate n B.u)[j]? = some b := fun j b z => by
    rw [List.getElem?_append_left (List.getElem?_eq_some_iff.mp z).1]; exact z
  have so : ∀ {α : Type} (j : Nat) (y : α) (l r : List α), l[j]? = some y → (l ++ r)[j]? = some y := fun j y l r z => by
    rw [List.getElem?_append_left (List.getElem?_eq_some_iff.mp z).1]; exact z
  have oe : Own io ad (E ++ List.replicate n B.u) = Own io ad E := by
    funext a
    exact propext ⟨fun ⟨i, m, h1, h2, h3⟩ => ⟨i, m, h1, at_ i _ (fun z => nomatch z) h2, h3⟩, fun ⟨i, m, h1, h2, h3⟩ => ⟨i, m, h1, at' i _ h2, h3⟩⟩
  have ae : Ao Γ io ad (E ++ List.replicate n B.u) = Ao Γ io ad E := by funext a; unfold Ao; rw [oe]
  refine ⟨⟨by rw [List.length_append, List.length_append, List.length_replicate, List.length_replicate, ok.len], ok.w, ok.oA, ok.hk, fun j d z => ?_, fun j m z => ?_, fun j m z => ok.obi j m (at_ j _ (fun z => nomatch z) z), fun j m z => ok.obn j m (at_ j _ (fun z => nomatch z) z), fun j k m m' z1 z2 => ok.inj j k m m' (at_ j _ (fun z => nomatch z) z1) (at_ k _ (fun z => nomatch z) z2)⟩, oe⟩
  · obtain ⟨v, h1, h2⟩ := ok.vl j d (at_ j _ (fun z => nomatch z) z)
    exact ⟨v, so _ _ _ _ h1, by rw [ae]; exact h2⟩
  · obtain ⟨h1, h2⟩ := ok.ob j m (at_ j _ (fun z => nomatch z) z)
    exact ⟨so _ _ _ _ h1, by rw [ae]; exact h2⟩
/-- THE RULE for a def: its body's reading -/
theorem fn_ok {N ps : List Str} {k : Nat} (F : FunD K x qual params body scope [] [] f fd) (S : FnScope N ps scope) (hp : N.length - ps.length = pad)
    (hb : ∀ (cdv : Value) (A : Around) (outer : List Env) (s : Shared) (H : Hp) (E : XK), Room k (A.deeper (envOfC qual scope s.heap.objs.size f cdv)) → PSs (cxOf CX0 P w K mg base N qual scope f cdv A outer s H E).nox body (sD K io b)) :
    FnOk P w K mg base CX0 (k + 1) f fd ps (spF K ps.length io (bodyFn io pad b)) := by
  refine F.ok S (fun vs H Q E h => ?_) fun cdv A outer s H vs Q E hr h => ⟨sD K io b, PSs.nox (hb cdv A outer s H E hr), ?_⟩
  · obtain ⟨Γ, ad, Bs, r, E', ok, hl, _⟩ := h
    rw [← hl, ← ok.len, List.length_map]
  · obtain ⟨Γ, ad, Bs, r, E', ok, hl, hio, he, q⟩ := h
    obtain ⟨o, h1, h2⟩ := Option.bind_eq_some_iff.mp he
    have hv : vs.length = ps.length := by rw [← hl, ← ok.len, List.length_map]
    obtain ⟨ok2, oe⟩ := ok.padded pad
    have st : L2.start N vs = vs.map some ++ List.replicate pad none := by
      unfold L2.start
      rw [hv, hp]
    rw [st]
    have noOwn : ∀ a, ¬ Own io ad (Bs ++ List.replicate pad B.u) a := fun a z => by
      rw [oe] at z
      obtain ⟨i, m, z1, z2, _⟩ := z
      exact z1 (hio i m z2)
    refine ⟨Γ, ad, _, o, ok2, h1, ?_⟩
    have fin : ∀ (v : V) (d : PyData) (E2 : Env') (σ' : L2.St) (H' : Hp) (ad' : Nat → Addr), r = d → E' = outs io E2 → Step Γ io ad (Bs ++ List.replicate pad B.u) H ad' E2 H' → EOk K Γ io ad' σ' H' E2 → RepD K H' Γ.A d v → Q v H' := fun v d E2 σ' H' ad' e1 e2 s' ok' rd => by
      subst e1 e2
      refine q v H' ⟨fun a o h n => s'.fr.eq a o h fun z => z.elim n (noOwn a), s'.fr.on⟩ (fun j k m z1 z2 => ?_) rd
      have z3 := outs_at z1 z2
      obtain ⟨_, z4⟩ := ok'.ob k m z3
      rw [s'.io k (List.mem_of_getElem? z1)] at z4
      cases m with
      | lst xs => obtain ⟨ws, y0, y1, y2⟩ := z4; exact ⟨ws, y0, y1, (Go.less ao_A).repL xs ws y2⟩
    cases o with
    | rt d E2 => cases h2; exact fun v σ' H' ad' s' ok' rd => fin v _ E2 σ' H' ad' rfl rfl s' ok' rd
    | nx E2 => cases h2; exact fun σ' H' ad' s' ok' => fin .non _ E2 σ' H' ad' rfl rfl s' ok' rep_non
    | bk E2 => cases h2
    | ct E2 => cases h2
end

/-! ### calls -/
/-- the slots of the own objects that are handed in, by parameter -/
def slotsG : List G → Nat → List (Nat × Nat)
  | [], _ => []
  | .v _ :: gs, k => slotsG gs (k + 1)
  | .s i :: gs, k => (k, i) :: slotsG gs (k + 1)
def argB (E : Env') : List G → Option Env'
  | [] => some []
  | .v d :: gs => (argB E gs).map fun bs => B.v d :: bs
  | .s i :: gs => match E[i]? with
    | some (B.o m) => (argB E gs).map fun bs => B.o m :: bs
    | _ => none
def putB (E : Env') : List Nat → Env' → Option Env'
  | [], [] => some E
  | i :: is, B.o m :: bs => putB (E.set i (B.o m)) is bs
  | _, _ => none
def fCall (io' : List Nat) (fn : Fn) (args : Af) : Ef := fun E => (args E).bind fun r => if (slotsG r.1 0).map (·.1) = io' ∧ ((slotsG r.1 0).map (·.2)).Nodup then
  (argB r.2 r.1).bind fun bs => (fn bs).bind fun s => (putB r.2 ((slotsG r.1 0).map (·.2)) s.2).map fun E' => (s.1, E') else none
theorem argB_len {E : Env'} : ∀ {gs : List G} {bs : Env'}, argB E gs = some bs → bs.length = gs.length
  | [], bs, h => by cases h; rfl
  | .v d :: gs, bs, h => by
    obtain ⟨bs', h1, h2⟩ := Option.map_eq_some_iff.mp h
    subst h2
    rw [List.length_cons, List.length_cons, argB_len h1]
  | .s i :: gs, bs, h => by
    unfold argB at h
    split at h
    · obtain ⟨bs', h1, h2⟩ := Option.map_eq_some_iff.mp h
      subst h2
      rw [List.length_cons, List.length_cons, argB_len h1]
    · cases h
theorem argB_v {E : Env'} : ∀ {gs : List G} {bs : Env'} {k : Nat} {d : PyData}, argB E gs = some bs → bs[k]? = some (B.v d) → gs[k]? = some (.v d)
  | [], bs, k, d, h, e => by cases h; simp at e
  | .v d' :: gs, bs, k, d, h, e => by
    obtain ⟨bs', h1, h2⟩ := Option.map_eq_some_iff.mp h
    subst h2
    cases k with
    | zero => simp at e; subst e; rfl
    | succ k => simpa using argB_v h1 (by simpa using e)
  | .s i :: gs, bs, k, d, h, e => by
    unfold argB at h
    split at h
    · obtain ⟨bs', h1, h2⟩ := Option.map_eq_some_iff.mp h
      subst h2
      cases k with
      | zero => simp at e
      | succ k => simpa using argB_v h1 (by simpa using e)
    · cases h
theorem argB_o {E : Env'} : ∀ {gs : List G} {bs : Env'} {k : Nat} {m : M}, argB E gs = some bs → bs[k]? = some (B.o m) → ∃ i, gs[k]? = some (.s i) ∧ E[i]? = some (B.o m)
  | [], bs, k, d, h, e => by cases h; simp at e
  | .v d' :: gs, bs, k, m, h, e => by
    obtain ⟨bs', h1, h2⟩ := Option.map_eq_some_iff.mp h
    subst h2
    cases k with
    | zero => simp at e
    | succ k => simpa using argB_o h1 (by simpa using e)
  | .s i :: gs, bs, k, m, h, e => by
    unfold argB at h
    split at h
    · rename_i m' hm
      obtain ⟨bs', h1, h2⟩ := Option.map_eq_some_iff.mp h
      subst h2
      cases k with
      | zero => simp at e; subst e; exact ⟨i, rfl, hm⟩
      | succ k => simpa using argB_o h1 (by simpa using e)
    · cases h
theorem slots_mem : ∀ {gs : List G} {n k i : Nat}, (k, i) ∈ slotsG gs n ↔ n ≤ k ∧ gs[k - n]? = some (.s i)
  | [], n, k, i => by simp [slotsG]
  | .v d :: gs, n, k, i => by
    show (k, i) ∈ slotsG gs (n + 1) ↔ _
    rw [slots_mem]
    constructor
    · rintro ⟨h1, h2⟩
      refine ⟨by omega, ?_⟩
      have : k - n = (k - (n + 1)) + 1 := by omega
      rw [this]; simpa using h2
    · rintro ⟨h1, h2⟩
      by_cases e : k = n
      · subst e; simp at h2
      · refine ⟨by omega, ?_⟩
        have : k - n = (k - (n + 1)) + 1 := by omega
        rw [this] at h2; simpa using h2
  | .s j :: gs, n, k, i => by
    show (k, i) ∈ (n, j) :: slotsG gs (n + 1) ↔ _
    rw [List.mem_cons, slots_mem]
    constructor
    · rintro (h | ⟨h1, h2⟩)
      · cases h; exact ⟨Nat.le_refl _, by simp⟩
      · refine ⟨by omega, ?_⟩
        have : k - n = (k - (n + 1)) + 1 := by omega
        rw [this]; simpa using h2
    · rintro ⟨h1, h2⟩
      by_cases e : k = n
      · subst e; simp at h2; subst h2; exact .inl rfl
      · refine .inr ⟨by omega, ?_⟩
        have : k - n = (k - (n + 1)) + 1 := by omega
        rw [this] at h2; simpa using h2
theorem repG_v {ad : Nat → Addr} {K : PySem.W.Frag} {H : Hp} {A : Addr → Prop} : ∀ {gs : List G} {vs : List V} {k : Nat} {d : PyData}, RepG ad K H A gs vs → gs[k]? = some (.v d) → ∃ v, vs[k]? = some v ∧ RepD K H A d v
  | [], vs, k, d, h, e => by simp at e
  | .v d' :: gs, vs, k, d, h, e => by
    obtain ⟨v, r, q, h1, h2⟩ := h
    subst q
    cases k with
    | zero => simp at e; subst e; exact ⟨v, rfl, h1⟩
    | succ k => simpa using repG_v h2 (by simpa using e)
  | .s i :: gs, vs, k, d, h, e => by
    obtain ⟨r, q, h2⟩ := h
    subst q
    cases k with
    | zero => simp at e
    | succ k => simpa using repG_v h2 (by simpa using e)
theorem repG_s {ad : Nat → Addr} {K : PySem.W.Frag} {H : Hp} {A : Addr → Prop} : ∀ {gs : List G} {vs : List V} {k i : Nat}, RepG ad K H A gs vs → gs[k]? = some (.s i) → vs[k]? = some (.ref (ad i))
  | [], vs, k, d, h, e => by simp at e
  | .v d' :: gs, vs, k, d, h, e => by
    obtain ⟨v, r, q, h1, h2⟩ := h
    subst q
    cases k with
    | zero => simp at e
    | succ k => simpa using repG_s h2 (by simpa using e)
  | .s i :: gs, vs, k, d, h, e => by
    obtain ⟨r, q, h2⟩ := h
    subst q
    cases k with
    | zero => simp at e; subst e; rfl
    | succ k => simpa using repG_s h2 (by simpa using e)
theorem repG_len {ad : Nat → Addr} {K : PySem.W.Frag} {H : Hp} {A : Addr → Prop} : ∀ {gs : List G} {vs : List V}, RepG ad K H A gs vs → vs.length = gs.length
  | [], vs, h => by unfold RepG at h; subst h; rfl
  | .v d' :: gs, vs, h => by
    obtain ⟨v, r, q, h1, h2⟩ := h
    subst q
    rw [List.length_cons, List.length_cons, repG_len h2]
  | .s i :: gs, vs, h => by
    obtain ⟨r, q, h2⟩ := h
    subst q
    rw [List.length_cons, List.length_cons, repG_len h2]
/-- what putB does: at the slots the new objects, else as it was -/
theorem putB_spec : ∀ {is : List Nat} {bs E E' : Env'}, is.Nodup → (∀ i ∈ is, ∃ m, E[i]? = some (B.o m)) → putB E is bs = some E' →
    Sim E E' ∧ (∀ (j : Nat), j ∉ is → E'[j]? = E[j]?) ∧ ∀ (n i : Nat), is[n]? = some i → ∃ m, bs[n]? = some (B.o m) ∧ E'[i]? = some (B.o m)
  | [], [], E, E', _, _, h => by cases h; exact ⟨Sim.refl E, fun _ _ => rfl, fun n i e => by simp at e⟩
  | [], _ :: _, E, E', _, _, h => by cases h
  | _ :: _, [], E, E', _, _, h => by cases h
  | i :: is, B.u :: bs, E, E', _, _, h => by cases h
  | i :: is, B.v _ :: bs, E, E', _, _, h => by cases h
  | i :: is, B.o m :: bs, E, E', nd, ho, h => by
    obtain ⟨m0, hm0⟩ := ho i List.mem_cons_self
    have hi : i < E.length := (List.getElem?_eq_some_iff.mp hm0).1
    have nd' := List.nodup_cons.mp nd
    have s1 : Sim E (E.set i (B.o m)) := by
      refine ⟨List.length_set, fun j => ?_⟩
      by_cases q : i = j
      · subst q; exact .inl ⟨m0, m, hm0, List.getElem?_set_self hi⟩
      · rw [List.getElem?_set_ne q]; exact (Sim.refl E).2 j
    obtain ⟨s2, o2, g2⟩ := putB_spec (is := is) (bs := bs) (E := E.set i (B.o m)) nd'.2 (fun j hj => s1.own.mpr (ho j (List.mem_cons_of_mem _ hj))) h
    refine ⟨s1.trans s2, fun j hj => ?_, fun n k e => ?_⟩
    · have h1 : j ∉ is := fun z => hj (List.mem_cons_of_mem _ z)
      have h2 : i ≠ j := fun z => hj (z ▸ List.mem_cons_self)
      rw [o2 j h1, List.getElem?_set_ne h2]
    · cases n with
      | zero =>
        simp at e
        subst e
        exact ⟨m, rfl, by rw [o2 i nd'.1, List.getElem?_set_self hi]⟩
      | succ n => simpa using g2 n k (by simpa using e)
section
variable {X : Cx} {io : List Nat} {e : Expr} {es : List Expr} {fr : Af} {pos : Pos}
theorem sp_call {K : PySem.W.Frag} {n : Nat} {io' : List Nat} {fn : Fn} {EX : XK} (hn : ∀ {gs : List G} {E E1 : Env'}, fr E = some (gs, E1) → gs.length = n) {σ : L2.St} {H : Hp} {Q : VK} (w : tD K io (fCall io' fn fr) σ H Q) : aD K io fr σ H fun vs H1 => spF K n io' fn (vs ++ []) H1 Q EX := by
  obtain ⟨Γ, ad, E0, d, E', ok0, he, q⟩ := w
  obtain ⟨⟨gs, E1⟩, h1, h2⟩ := Option.bind_eq_some_iff.mp he
  refine ⟨Γ, ad, E0, gs, E1, ok0, h1, fun vs H1 fr1 ok1 sim1 rg => ?_⟩
  split at h2
  rotate_left
  · cases h2
  rename_i hc
  obtain ⟨hio, hnd⟩ := hc
  obtain ⟨bs, h3, h4⟩ := Option.bind_eq_some_iff.mp h2
  obtain ⟨⟨r, os⟩, h5, h6⟩ := Option.bind_eq_some_iff.mp h4
  obtain ⟨E2, h7, h8⟩ := Option.map_eq_some_iff.mp h6
  cases h8
  rw [List.append_nil]
  let sl := slotsG gs 0
  -- the callee's addresses
  let ad' : Nat → Addr := fun k => match gs[k]? with
    | some (.s i) => ad i
    | _ => 0
  have ad'_s : ∀ {k i : Nat}, gs[k]? = some (.s i) → ad' k = ad i := fun {k i} h => by show (match gs[k]? with | some (.s i) => ad i | _ => 0) = _; rw [h]
  let Γ' : Gm := ⟨Ao Γ io ad E0, fun a => ∃ k i, (k, i) ∈ sl ∧ a = ad i, H1⟩
  have aE : Ao Γ io ad E1 = Ao Γ io ad E0 := sim1.Ao
  have isO : ∀ {k i : Nat}, gs[k]? = some (.s i) → ∃ m, E1[i]? = some (B.o m) := by
    have : ∀ {gs : List G} {bs : Env'} {k i : Nat}, argB E1 gs = some bs → gs[k]? = some (.s i) → ∃ m, E1[i]? = some (B.o m) := by
      intro gs
      induction gs with
      | nil => intro bs k i _ e; simp at e
      | cons g gs ih =>
        intro bs k i h e
        cases g with
        | v d =>
          obtain ⟨bs', z1, z2⟩ := Option.map_eq_some_iff.mp h
          cases k with
          | zero => simp at e
          | succ k => exact ih z1 (by simpa using e)
        | s j =>
          unfold argB at h
          split at h
          · rename_i m hm
            obtain ⟨bs', z1, z2⟩ := Option.map_eq_some_iff.mp h
            cases k with
            | zero => simp at e; subst e; exact ⟨m, hm⟩
            | succ k => exact ih z1 (by simpa using e)
          · cases h
    exact fun {k i} h => this h3 h
  have inIo : ∀ {k i : Nat}, gs[k]? = some (.s i) → k ∈ io' := fun {k i} h => by
    rw [← hio]
    exact List.mem_map.mpr ⟨(k, i), slots_mem.mpr ⟨Nat.zero_le _, h⟩, rfl⟩
  have slotInj : ∀ {k k' i : Nat}, gs[k]? = some (.s i) → gs[k']? = some (.s i) → k = k' := by
    intro k k' i h h'
    have a1 : (k, i) ∈ sl := slots_mem.mpr ⟨Nat.zero_le _, h⟩
    have a2 : (k', i) ∈ sl := slots_mem.mpr ⟨Nat.zero_le _, h'⟩
    obtain ⟨n1, l1, e1⟩ := List.getElem_of_mem a1
    obtain ⟨n2, l2, e2⟩ := List.getElem_of_mem a2
    have hl : (sl.map (·.2)).length = sl.length := List.length_map _
    have : n1 = n2 := by
      refine (List.getElem_inj (h₀ := by rw [hl]; exact l1) (h₁ := by rw [hl]; exact l2) hnd).mp ?_
      rw [List.getElem_map, List.getElem_map, e1, e2]
    subst this
    rw [e1] at e2
    exact (Prod.mk.inj e2).1
  have noOwn : ∀ a, ¬ Own io' ad' bs a := fun a ⟨k, m, z1, z2, _⟩ => by
    obtain ⟨i, z3, _⟩ := argB_o h3 z2
    exact z1 (inIo z3)
  have aE' : ∀ a, Ao Γ' io' ad' bs a → Ao Γ io ad E0 a := fun a h => h.elim id fun z => absurd z (noOwn a)
  have len : vs.length = bs.length := by rw [repG_len rg, argB_len h3]
  refine ⟨Γ', ad', bs, _, os, ⟨by rw [List.length_map]; exact len, fun a h => ?_, fun a h => ?_, fun a h => h, fun k d z => ?_, fun k m z => ?_, fun k m z hk => ?_, fun k m z hk => ?_, fun k k' m m' z z' hz => ?_⟩, ?_, fun k m z => ?_, h5, fun v H2 fr2 objs rd => ?_⟩
  · obtain ⟨k, i, z1, z2⟩ := h
    obtain ⟨m, z3⟩ := isO (by simpa using (slots_mem.mp z1).2)
    show Ao Γ io ad E0 a
    rw [z2, ← aE]
    exact ok1.wa _ (ok1.wo z3)
  · exact ok1.on a (by rw [aE]; exact h)
  · obtain ⟨v, q1, q2⟩ := repG_v rg (argB_v h3 z)
    exact ⟨v, by rw [List.getElem?_map, q1] <;> rfl, (Go.less aE').rep d v q2⟩
  · obtain ⟨i, z1, z2⟩ := argB_o h3 z
    refine ⟨by rw [List.getElem?_map, repG_s rg z1, ad'_s z1] <;> rfl, ?_⟩
    rw [ad'_s z1]
    obtain ⟨_, z3⟩ := ok1.ob i m z2
    cases m with
    | lst xs => obtain ⟨ws, y0, y1, y2⟩ := z3; exact ⟨ws, y0, y1, (Go.less fun a h => by rw [aE]; exact aE' a h).repL xs ws y2⟩
  · obtain ⟨i, z1, z2⟩ := argB_o h3 z
    exact ⟨k, i, slots_mem.mpr ⟨Nat.zero_le _, z1⟩, ad'_s z1⟩
  · obtain ⟨i, z1, z2⟩ := argB_o h3 z
    exact absurd (inIo z1) hk
  · obtain ⟨i, z1, z2⟩ := argB_o h3 z
    obtain ⟨i', z1', z2'⟩ := argB_o h3 z'
    rw [ad'_s z1, ad'_s z1'] at hz
    have := ok1.inj i i' m m' z2 z2' hz
    subst this
    exact slotInj z1 z1'
  · rw [argB_len h3]; exact hn h1
  · obtain ⟨i, z1, z2⟩ := argB_o h3 z
    exact inIo z1
  · -- behind the call
    obtain ⟨sim2, out2, at2⟩ := putB_spec hnd (fun i hi => by
      obtain ⟨⟨k, i'⟩, z1, z2⟩ := List.mem_map.mp hi
      have z2 : i' = i := z2
      subst z2
      exact isO (by simpa using (slots_mem.mp z1).2)) h7
    have wsub : ∀ a, Γ'.W a → Wo Γ io ad E1 a := fun a ⟨k, i, z1, z2⟩ => by
      obtain ⟨m, z3⟩ := isO (by simpa using (slots_mem.mp z1).2)
      rw [z2]
      exact ok1.wo z3
    have fr2' : Frm (Wo Γ io ad E1) H1 H2 := ⟨fun a o h n => fr2.eq a o h fun z => n (wsub a z), fr2.on⟩
    have g : Go H1 (Ao Γ io ad E1) H2 (Ao Γ io ad E1) := Go.frm fr2' ok1.wa
    have aE2 := fun Γ => sim2.Ao (Γ := Γ) (io := io) (ad := ad)
    have eio : io' = sl.map (·.1) := hio.symm
    refine q v H2 (fr1.trans' (by rw [sim1.Wo] at fr2'; exact fr2')) ?_ (sim1.trans sim2) rd
    refine ⟨by rw [ok1.len, sim2.1], ok1.w, fun a h => fr2.on a (ok1.oA a h), fun a h => fr2.on a (ok1.hk a h), fun i d z => ?_, fun i m z => ?_, fun i m z hi => ?_, fun i m z hi => ?_, fun i j m m' z1 z2 => ?_⟩
    · rcases sim2.2 i with ⟨m1, m2, y1, y2⟩ | ⟨y1, y2⟩
      · rw [y2] at z; cases z
      · rw [y2] at z
        obtain ⟨u, x1, x2⟩ := ok1.vl i d z
        exact ⟨u, x1, by rw [aE2 Γ]; exact g.rep d u x2⟩
    · obtain ⟨m0, hm0⟩ := sim2.own.mp ⟨m, z⟩
      refine ⟨(ok1.ob i m0 hm0).1, ?_⟩
      rw [aE2 Γ]
      by_cases hi : i ∈ sl.map (·.2)
      · obtain ⟨⟨k, i'⟩, z1, z2⟩ := List.mem_map.mp hi
        have z2 : i' = i := z2
        subst z2
        obtain ⟨n, hn, en⟩ := List.getElem_of_mem z1
        have e1 : (sl.map (·.2))[n]? = some i' := by rw [List.getElem?_map, List.getElem?_eq_getElem hn, en] <;> rfl
        have e2 : io'[n]? = some k := by rw [eio, List.getElem?_map, List.getElem?_eq_getElem hn, en] <;> rfl
        obtain ⟨m3, e3, e4⟩ := at2 n i' e1
        rw [e4] at z
        cases z
        have o := objs n k m e2 e3
        rw [ad'_s (by simpa using (slots_mem.mp z1).2)] at o
        have o' : ObjD K H2 (Ao Γ io ad E0) (ad i') m := o
        rw [aE]
        exact o'
      · rw [out2 i hi] at z
        obtain ⟨_, z3⟩ := ok1.ob i m z
        have nw : ¬ Γ'.W (ad i) := fun ⟨k, j, z1, z2⟩ => by
          obtain ⟨m4, z4⟩ := isO (by simpa using (slots_mem.mp z1).2)
          have e := ok1.inj i j m m4 z z4 z2
          exact hi (List.mem_map.mpr ⟨(k, j), z1, e.symm⟩)
        cases m with
        | lst xs => obtain ⟨ws, y0, y1, y2⟩ := z3; exact ⟨ws, fr2.eq _ _ y0 nw, y1, g.repL xs ws y2⟩
    · obtain ⟨m0, hm0⟩ := sim2.own.mp ⟨m, z⟩; exact ok1.obi i m0 hm0 hi
    · obtain ⟨m0, hm0⟩ := sim2.own.mp ⟨m, z⟩; exact ok1.obn i m0 hm0 hi
    · obtain ⟨m3, z3⟩ := sim2.own.mp ⟨m, z1⟩
      obtain ⟨m4, z4⟩ := sim2.own.mp ⟨m', z2⟩
      exact ok1.inj i j m3 m4 z3 z4
/-- an argument list of so many -/
def ALen (fr : Af) (n : Nat) : Prop := ∀ {gs : List G} {E E1 : Env'}, fr E = some (gs, E1) → gs.length = n
theorem alen_nil : ALen aNil 0 := fun h => by cases h; rfl
theorem alen_v {fe : Ef} {n : Nat} (h : ALen fr n) : ALen (aV fe fr) (n + 1) := fun {gs E E1} e => by
  obtain ⟨⟨d, E2⟩, h1, h2⟩ := Option.bind_eq_some_iff.mp e
  obtain ⟨⟨gs', E3⟩, h3, h4⟩ := Option.map_eq_some_iff.mp h2
  cases h4
  rw [List.length_cons, h h3]
theorem alen_s {i n : Nat} (h : ALen fr n) : ALen (aS i fr) (n + 1) := fun {gs E E1} e => by
  unfold aS at e
  split at e
  · obtain ⟨⟨gs', E3⟩, h3, h4⟩ := Option.map_eq_some_iff.mp e
    cases h4
    rw [List.length_cons, h h3]
  · cases e
variable {k : Nat} {f : Addr} {fd : FuncData} {ps : List Str} {x : Str} {p : Pos} {n : Nat} {io' : List Nat} {fn : Fn}
theorem de_call (F : FnOk X.prog X.w X.K X.mg X.base CX0 k f fd ps (spF X.K n io' fn)) (hr : Room k X.A) (hg : Gl X x) (hm : X.mg x = some (.ref f)) (hk : PySem.W.keepIn X.K (.ref f) = true) (hb : Binds X.K fd ps []) (ha : PA X (e :: es) (aD X.K io fr)) (hl : ALen fr n)
    (hdb : (x == ("__debug__" : Str)) = false := by decide) (he : starEach (e :: es) X.env = (false, eval e X.env) :: starEach es X.env := by rfl) (hpl : (backTo pos (starEach es X.env)).any (·.1) = false := by rfl) :
    PE X (.Call (.Name x p) (e :: es) [] pos) (tD X.K io (fCall io' fn fr)) := (pe_call F hr hg hm hk hb .nil pass0 ha hdb he hpl).imp fun σ H Q w => sp_call (fun h => hl h) w
theorem de_call0 (F : FnOk X.prog X.w X.K X.mg X.base CX0 k f fd ps (spF X.K 0 io' fn)) (hr : Room k X.A) (hg : Gl X x) (hm : X.mg x = some (.ref f)) (hk : PySem.W.keepIn X.K (.ref f) = true) (hb : Binds X.K fd ps [])
    (hdb : (x == ("__debug__" : Str)) = false := by decide) : PE X (.Call (.Name x p) [] [] pos) (tD X.K io (fCall io' fn aNil)) := (pe_call0 F hr hg hm hk hb .nil pass0 hdb).imp fun σ H Q w => by
  obtain ⟨Γ, ad, E, gs, E1, ok, h1, k⟩ := sp_call (fr := aNil) (n := 0) (EX := E0) (fun h => alen_nil h) w
  cases h1
  exact k [] H Frm.refl ok (Sim.refl _) (by unfold RepG; rfl)
end
end DL

namespace DL
open PySem PySem.Spec PyProof.Rows L2

/-! ### defs that give a new list, to be the caller's own -/
abbrev FnL := Env' → Option (List PyData × Env')
def spL (K : PySem.W.Frag) (n : Nat) (io : List Nat) (fn : FnL) : Sp := fun vs H Q _ => ∃ Γ ad E r E', EOk K Γ io ad (vs.map some) H E ∧ E.length = n ∧ (∀ (i : Nat) (m : M), E[i]? = some (B.o m) → i ∈ io) ∧ fn E = some (r, E') ∧
  ∀ p vs' H', Frm Γ.W H H' → H p = none → H' p = some (.lst vs') → vs'.length ≤ sizeLine → (∀ (j k : Nat) (m : M), io[j]? = some k → E'[j]? = some (B.o m) → ObjD K H' (Γ.with p).A (ad k) m) → RepL K H' (Γ.with p).A r vs' → Q (.ref p) H'
/-- a body that ends by such a return -/
def qD (K : PySem.W.Frag) (io : List Nat) (f : Lf) : TS := fun Dn σ H => ∃ Γ ad E ds E', EOk K Γ io ad σ H E ∧ f E = some (ds, E') ∧ ∀ p vs σ' H' ad', Frm (Wo Γ io ad E) H H' → H p = none → H' p = some (.lst vs) → vs.length ≤ sizeLine →
  EOk K (Γ.with p) io ad' σ' H' E' → (∀ i ∈ io, ad' i = ad i) → RepL K H' (Γ.with p).A ds vs → Dn.rt (.ref p) H'
section
variable {X : Cx} {io : List Nat} {a : Expr} {fl g : Lf} {f : Sf} {pos : Pos} {st : Stmt} {sts : List Stmt}
theorem dq_ret (he : PE X a (lD X.K io fl)) : PS X (.Return (some a) pos) (qD X.K io fl) := (ps_ret he).imp fun Dn σ H w => by
  obtain ⟨Γ, ad, E, ds, E', ok, he, q⟩ := w
  exact ⟨Γ, ad, E, ds, E', ok, he, fun p vs H' fr hp hq hz ok' r sim => q p vs σ H' ad fr hp hq hz ok' (fun _ _ => rfl) ((Go.less ao_A).repL ds vs r)⟩
theorem dq_one (h : PS X st (qD X.K io fl)) : PSs X [st] (qD X.K io fl) := pss_one h
def qSeq (f : Sf) (g : Lf) : Lf := fun E => (f E).bind fun o => match o with
  | .nx E1 => g E1
  | _ => none
theorem dq_cons (h1 : PS X st (sD X.K io f)) (h2 : PSs X sts (qD X.K io g)) : PSs X (st :: sts) (qD X.K io (qSeq f g)) := (pss_cons h1 h2).imp fun Dn σ H w => by
  obtain ⟨Γ, ad, E, ds, E', ok, he, q⟩ := w
  obtain ⟨o1, h3, h4⟩ := Option.bind_eq_some_iff.mp he
  refine ⟨Γ, ad, E, o1, ok, h3, ?_⟩
  cases o1 with
  | nx E1 =>
    exact fun σ1 H1 ad1 s1 ok1 => ⟨Γ, ad1, E1, ds, E', ok1, h4, fun p vs σ' H' ad' fr hp hq hz ok' ha r => q p vs σ' H' ad' (s1.fr.trans fr fun x h => by
      rcases h with h | h
      · exact .inl (.inl h)
      · exact (s1.own x h).imp .inr id) (frm_none s1.fr hp) hq hz ok' (fun i hi => (ha i hi).trans (s1.io i hi)) r⟩
  | rt d E1 => cases h4
  | bk E1 => cases h4
  | ct E1 => cases h4
end
def bodyFnL (io : List Nat) (pad : Nat) (f : Lf) : FnL := fun E => (f (E ++ List.replicate pad B.u)).map fun r => (r.1, outs io r.2)
section
variable {P : Program} {w : World} {K : PySem.W.Frag} {mg : Str → Option Value} {base : Heap} {x qual : Str} {params : Arguments} {body : List Stmt} {scope : Scope} {f : Addr} {fd : FuncData} {io : List Nat} {pad : Nat} {b : Lf}
theorem fnL_ok {N ps : List Str} {k : Nat} (F : FunD K x qual params body scope [] [] f fd) (S : FnScope N ps scope) (hp : N.length - ps.length = pad)
    (hb : ∀ (cdv : Value) (A : Around) (outer : List Env) (s : Shared) (H : Hp) (E : XK), Room k (A.deeper (envOfC qual scope s.heap.objs.size f cdv)) → PSs (cxOf CX0 P w K mg base N qual scope f cdv A outer s H E).nox body (qD K io b)) :
    FnOk P w K mg base CX0 (k + 1) f fd ps (spL K ps.length io (bodyFnL io pad b)) := by
  refine F.ok S (fun vs H Q E h => ?_) fun cdv A outer s H vs Q E hr h => ⟨qD K io b, PSs.nox (hb cdv A outer s H E hr), ?_⟩
  · obtain ⟨Γ, ad, Bs, r, E', ok, hl, _⟩ := h
    rw [← hl, ← ok.len, List.length_map]
  · obtain ⟨Γ, ad, Bs, r, E', ok, hl, hio, he, q⟩ := h
    obtain ⟨⟨ds, E2⟩, h1, h2⟩ := Option.map_eq_some_iff.mp he
    cases h2
    have hv : vs.length = ps.length := by rw [← hl, ← ok.len, List.length_map]
    obtain ⟨ok2, oe⟩ := ok.padded pad
    have st : L2.start N vs = vs.map some ++ List.replicate pad none := by
      unfold L2.start
      rw [hv, hp]
    rw [st]
    have noOwn : ∀ a, ¬ Own io ad (Bs ++ List.replicate pad B.u) a := fun a z => by
      rw [oe] at z
      obtain ⟨i, m, z1, z2, _⟩ := z
      exact z1 (hio i m z2)
    refine ⟨Γ, ad, _, ds, E2, ok2, h1, fun p vs' σ' H' ad' fr hp' hq hz ok' ha rr => ?_⟩
    refine q p vs' H' ⟨fun a o h n => fr.eq a o h fun z => z.elim n (noOwn a), fr.on⟩ hp' hq hz (fun j k m z1 z2 => ?_) rr
    have z3 := outs_at z1 z2
    obtain ⟨_, z4⟩ := ok'.ob k m z3
    rw [ha k (List.mem_of_getElem? z1)] at z4
    cases m with
    | lst xs => obtain ⟨ws, y0, y1, y2⟩ := z4; exact ⟨ws, y0, y1, (Go.less ao_A).repL xs ws y2⟩
end
/-- its call, where no own object is handed in -/
def fCallL (fn : FnL) (args : Af) : Lf := fun E => (args E).bind fun r => (onlyV r.1).bind fun ds => (fn (ds.map B.v)).map fun s => (s.1, r.2)
section
variable {X : Cx} {io : List Nat} {e : Expr} {es : List Expr} {fr : Af} {pos : Pos}
variable {k : Nat} {f : Addr} {fd : FuncData} {ps : List Str} {x : Str} {p : Pos} {n : Nat} {fn : FnL}
theorem sp_callL {K : PySem.W.Frag} {EX : XK} (hn : ALen fr n) {σ : L2.St} {H : Hp} {Q : VK} (w : lD K io (fCallL fn fr) σ H Q) : aD K io fr σ H fun vs H1 => spL K n [] fn (vs ++ []) H1 Q EX := by
  obtain ⟨Γ, ad, E0, ds', E', ok0, he, q⟩ := w
  obtain ⟨⟨gs, E1⟩, h1, h2⟩ := Option.bind_eq_some_iff.mp he
  obtain ⟨ds, h3, h4⟩ := Option.bind_eq_some_iff.mp h2
  obtain ⟨⟨r, os⟩, h5, h6⟩ := Option.map_eq_some_iff.mp h4
  cases h6
  refine ⟨Γ, ad, E0, gs, E1, ok0, h1, fun vs H1 fr1 ok1 sim1 rg => ?_⟩
  show spL K n [] fn (vs ++ []) H1 Q EX
  rw [List.append_nil]
  have rl := RepG.repL (onlyV_map h3) rg
  have aE : Ao Γ io ad E1 = Ao Γ io ad E0 := sim1.Ao
  have noO : ∀ (i : Nat) (m : M), (ds.map B.v)[i]? = some (B.o m) → False := fun i m z => by
    rw [List.getElem?_map] at z
    obtain ⟨d, _, z⟩ := Option.map_eq_some_iff.mp z
    cases z
  refine ⟨⟨Ao Γ io ad E0, F0, H1⟩, fun _ => 0, ds.map B.v, r, os, ⟨by rw [List.length_map, List.length_map, rl.length], fun _ h => h.elim, fun a h => ok1.on a (by rw [aE]; exact h), fun _ h => h, fun i d z => ?_, fun i m z => (noO i m z).elim, fun i m z => (noO i m z).elim, fun i m z => (noO i m z).elim, fun i j m m' z => (noO i m z).elim⟩, ?_, fun i m z => (noO i m z).elim, h5, fun p vs' H2 fr2 hp hq hz _ rr => ?_⟩
  · rw [List.getElem?_map] at z
    obtain ⟨d', z1, z2⟩ := Option.map_eq_some_iff.mp z
    cases z2
    obtain ⟨v, q1, q2⟩ := rl.get z1
    refine ⟨v, by rw [List.getElem?_map, q1] <;> rfl, (Go.less fun a h => ?_).rep d v q2⟩
    rcases h with h | ⟨i, m, _, z, _⟩
    · exact h
    · exact (noO i m z).elim
  · rw [List.length_map, ← rl.length, repG_len rg]; exact hn h1
  · have g : Go H1 (Ao Γ io ad E1) H2 (Ao (Γ.with p) io ad E1) := ⟨fun a o h _ => fr2.eq a o h id, fun a h => by
      rcases h with (h | h) | h
      · exact .inl (.inl h)
      · subst h; exact .inr hp
      · exact .inl (.inr h)⟩
    refine q p vs' H2 (fr1.trans' fr2.of0) (frm_none fr1 hp) hq hz ?_ ((Go.less fun a h => ?_).repL _ _ rr) sim1
    · refine ⟨ok1.len, fun a h => .inl (ok1.w a h), fun a h => ?_, fun a h => fr2.on a (ok1.hk a h), fun i d z => ?_, fun i m z => ?_, ok1.obi, fun i m z hi => ⟨(ok1.obn i m z hi).1, fun z' => ?_⟩, ok1.inj⟩
      · rcases h with h | h
        · exact fr2.on a (ok1.oA a h)
        · subst h; rw [hq]; exact fun z => nomatch z
      · obtain ⟨v, q1, q2⟩ := ok1.vl i d z
        exact ⟨v, q1, g.rep d v q2⟩
      · obtain ⟨q1, q2⟩ := ok1.ob i m z
        refine ⟨q1, ?_⟩
        cases m with
        | lst xs => obtain ⟨ws, y0, y1, y2⟩ := q2; exact ⟨ws, fr2.eq _ _ y0 id, y1, g.repL xs ws y2⟩
      · rcases z' with z' | z'
        · exact (ok1.obn i m z hi).2 z'
        · have := ok1.on (ad i) (.inr ⟨i, m, hi, z, rfl⟩)
          rw [z'] at this
          exact this hp
    · rcases h with (h | h) | h
      · exact .inl (by rw [← aE]; exact .inl h)
      · exact .inr h
      · exact .inl (by rw [← aE]; exact .inr h)
theorem ll_call (F : FnOk X.prog X.w X.K X.mg X.base CX0 k f fd ps (spL X.K n [] fn)) (hr : Room k X.A) (hg : Gl X x) (hm : X.mg x = some (.ref f)) (hk : PySem.W.keepIn X.K (.ref f) = true) (hb : Binds X.K fd ps []) (ha : PA X (e :: es) (aD X.K io fr)) (hl : ALen fr n)
    (hdb : (x == ("__debug__" : Str)) = false := by decide) (he : starEach (e :: es) X.env = (false, eval e X.env) :: starEach es X.env := by rfl) (hpl : (backTo pos (starEach es X.env)).any (·.1) = false := by rfl) :
    PE X (.Call (.Name x p) (e :: es) [] pos) (lD X.K io (fCallL fn fr)) := (pe_call F hr hg hm hk hb .nil pass0 ha hdb he hpl).imp fun σ H Q w => sp_callL hl w
end

/-! ### the module's constants -/
mutual
def repB (K : PySem.W.Frag) : PyData → Value → Bool
  | .none, .none => true
  | .bool b, .bool c => b == c
  | .int i, .int j _ => decide (i = j)
  | .str x, .str y _ => decide (x = y) && decide (x.length ≤ 1000)
  | .tuple ds, .ref a => (match K.lookup a with
    | some ⟨.type "tuple", _, .seq its _, _⟩ => decide (its.size ≤ 1000) && repBs K ds its.toList
    | _ => false)
  | _, _ => false
def repBs (K : PySem.W.Frag) : List PyData → List Value → Bool
  | [], [] => true
  | d :: ds, u :: us => repB K d u && repBs K ds us
  | _, _ => false
end
mutual
theorem repB_ok {K : PySem.W.Frag} : ∀ (d : PyData) (u : Value), repB K d u = true → ∃ v, RelV v u ∧ ∀ H A, RepD K H A d v
  | .none, u, h => by cases u <;> first | exact ⟨.non, rfl, fun _ _ => rep_non⟩ | cases h
  | .bool b, u, h => by
    cases u <;> first
      | (have e := eq_of_beq (show (b == _) = true from h); subst e; exact ⟨.bl b, rfl, fun _ _ => rep_bl⟩)
      | cases h
  | .int i, u, h => by
    cases u <;> first
      | (have e : i = _ := of_decide_eq_true h; subst e; exact ⟨.int i, ⟨_, rfl⟩, fun _ _ => rep_int⟩)
      | cases h
  | .str x, u, h => by
    cases u <;> first
      | (obtain ⟨h1, h2⟩ := Bool.and_eq_true_iff.mp h
         have e : x = _ := of_decide_eq_true h1
         subst e
         exact ⟨.str x, ⟨_, rfl⟩, fun _ _ => rep_str (Nat.le_trans (of_decide_eq_true h2) (by decide))⟩)
      | cases h
  | .tuple ds, u, h => by
    cases u with
    | ref a =>
      unfold repB at h
      split at h
      · rename_i dd its n sl e
        obtain ⟨h1, h2⟩ := Bool.and_eq_true_iff.mp h
        obtain ⟨vs, r, rep⟩ := repBs_ok ds its.toList h2
        have hz : its.size ≤ sizeLine := Nat.le_trans (of_decide_eq_true h1) (by decide)
        have hl := r.length
        rw [Array.length_toList] at hl
        exact ⟨.ref a, rfl, fun H A => rep_tup (.inr (.inr ⟨_, its, n, e, rfl, rfl, hz, r⟩)) (Nat.le_trans (Nat.le_of_eq hl) hz) (rep H A)⟩
      · cases h
    | _ => cases h
  | .list _, u, h => by cases u <;> cases h
  | .dict _, u, h => by cases u <;> cases h
theorem repBs_ok {K : PySem.W.Frag} : ∀ (ds : List PyData) (us : List Value), repBs K ds us = true → ∃ vs, Vals vs us ∧ ∀ H A, RepL K H A ds vs
  | [], [], _ => ⟨[], .nil, fun _ _ => repL_nil⟩
  | [], _ :: _, h => by cases h
  | _ :: _, [], h => by cases h
  | d :: ds, u :: us, h => by
    unfold repBs at h
    obtain ⟨h1, h2⟩ := Bool.and_eq_true_iff.mp h
    obtain ⟨v, r1, q1⟩ := repB_ok d u h1
    obtain ⟨vs, r2, q2⟩ := repBs_ok ds us h2
    exact ⟨v :: vs, .cons r1 r2, fun H A => repL_cons (q1 H A) (q2 H A)⟩
end
/-- the module's name x stands for d -/
def gloB (K : PySem.W.Frag) (x : Str) (d : PyData) : Bool := match PySem.W.nsIn K mainGlobals x with
  | some (some u) => repB K d u
  | _ => false
theorem gloB_ok {K : PySem.W.Frag} {h : Heap} {mg : Str → Option Value} (X : K.In h) (G : h.Ns mainGlobals mg) {x : Str} {d : PyData} (c : gloB K x d = true) : ∃ u v, mg x = some u ∧ RelV v u ∧ ∀ H A, RepD K H A d v := by
  unfold gloB at c
  split at c
  · rename_i u e
    obtain ⟨v, r, q⟩ := repB_ok d u c
    exact ⟨u, v, PySem.W.mg_of X G e, r, q⟩
  · cases c
section
variable {X : Cx} {io : List Nat} {a b : Expr} {fa fb : Ef} {pos : Pos}
theorem de_glob {x : Str} {d : PyData} (hg : Gl X x) (hm : ∃ u v, X.mg x = some u ∧ RelV v u ∧ ∀ H A, RepD X.K H A d v) (hd : (x == ("__debug__" : Str)) = false := by decide) : PE X (.Name x pos) (tD X.K io (fC d)) := by
  obtain ⟨u, v, h1, h2, h3⟩ := hm
  exact de_c (pe_glob hg h1 h2 hd) h3
/-! ### dicts of the module's top, keys texts -/
def tblLook (t : List (Str × PyData)) (z : Str) : Option PyData := match t.find? fun p => decide (p.1 = z) with
  | some p => some p.2
  | none => none
structure GDict (K : PySem.W.Frag) (w : World) (a : Addr) (t : List (Str × PyData)) : Prop where
  kd : ∃ es n, KDict K w a es n
  yes : ∀ z d, tblLook t z = some d → ∃ u v, PySem.W.nsIn K a z = some (some u) ∧ RelV v u ∧ ∀ H A, RepD K H A d v
  no : ∀ z, tblLook t z = none → PySem.W.nsIn K a z = some none
def tblB (K : PySem.W.Frag) (x : Str) (t : List (Str × PyData)) : Bool := (match K.lookup (He.ga K x) with
    | some ⟨_, _, .dict es _, _⟩ => es.toList.all fun e => match e.key with
      | .str y _ => (t.any fun p => decide (p.1 = y)) && !e.refKey
      | _ => false
    | _ => false) && t.all fun p => match PySem.W.nsIn K (He.ga K x) p.1 with
  | some (some u) => repB K p.2 u
  | _ => false
theorem tblB_ok {K : PySem.W.Frag} {w : World} {x : Str} {t : List (Str × PyData)} (hk : ∃ es n, KDict K w (He.ga K x) es n) (h : tblB K x t = true) : GDict K w (He.ga K x) t := by
  obtain ⟨h1, h2⟩ := Bool.and_eq_true_iff.mp h
  refine ⟨hk, fun z d e => ?_, fun z e => ?_⟩
  · unfold tblLook at e
    split at e
    · rename_i p hp
      cases e
      have hm := List.mem_of_find?_eq_some hp
      have hz : p.1 = z := by have := List.find?_some hp; exact of_decide_eq_true this
      have h3 := List.all_eq_true.mp h2 p hm
      split at h3
      · rename_i u e
        obtain ⟨v, r, q⟩ := repB_ok _ _ h3
        exact ⟨u, v, by rw [← hz]; exact e, r, q⟩
      · cases h3
    · cases e
  · unfold tblLook at e
    split at e
    · cases e
    rename_i hno
    split at h1
    · rename_i oc od es n sl hl
      unfold PySem.W.nsIn
      rw [hl]
      show (match es.toList.find? (·.key.isStr z) with | some e => some (some e.val) | none => if es.toList.any (·.refKey) then none else some none) = _
      have f0 : es.toList.find? (·.key.isStr z) = none := by
        rw [List.find?_eq_none]
        intro en hen hz
        have h3 := List.all_eq_true.mp h1 en hen
        split at h3
        · rename_i y tk hy
          obtain ⟨h4, _⟩ := Bool.and_eq_true_iff.mp h3
          obtain ⟨p, hp, hpe⟩ := List.any_eq_true.mp h4
          have hz' : (Value.str y tk).isStr z = true := by rw [← hy]; exact hz
          have e1 : y = z := by
            simpa [Value.isStr] using hz'
          have e2 : p.1 = y := of_decide_eq_true hpe
          have := List.find?_eq_none.mp hno p hp
          exact this (decide_eq_true (e2.trans e1))
        · cases h3
      have a0 : es.toList.any (·.refKey) = false := by
        rw [List.any_eq_false]
        intro en hen hz
        have h3 := List.all_eq_true.mp h1 en hen
        split at h3
        · obtain ⟨_, h5⟩ := Bool.and_eq_true_iff.mp h3
          rw [hz] at h5
          cases h5
        · cases h3
      rw [f0, a0] <;> rfl
    · cases h1
/-- z in t, z not in t, t[z], of such a table -/
def oInT (t : List (Str × PyData)) (f : Bool → Bool) : PyData → Option PyData
  | .str z => some (.bool (f (tblLook t z).isSome))
  | _ => none
def oIxT (t : List (Str × PyData)) : PyData → Option PyData
  | .str z => tblLook t z
  | _ => none
theorem ix_kd {d : Addr} {es : Array DictEntry} {n : Nat} (D : KDict X.K X.w d es n) : IxR X (fun x y H Q => ∃ (z : Str) (u0 : Value) (v0 : V), x = .ref d ∧ y = .str z ∧ PySem.W.nsIn X.K d z = some (some u0) ∧ RelV v0 u0 ∧ Q v0 H) := by
  intro value slice pins s σ H x y v u Q I rx ry h hs
  obtain ⟨z, u0, v0, rfl, rfl, e, r, q⟩ := h
  cases rx
  obtain ⟨t, rfl⟩ := ry
  exact subscriptTail_builtinR (x := u0) (kd_type D I) PySem.F.slot_dict_getitem.lookup
    (wpAny_getItem_of (Q := fun r s' => r = u0 ∧ EP X pins σ Q r s') (PySem.strKind_is X.prog X.w z t) (PySem.W.mapOf_K (prog := X.prog) I.kIn D.at_ D.lit) (PySem.W.find_K D.at_ e) ⟨rfl, ⟨v0, H, I.tok _, r, q⟩⟩) hs
variable {x : Str} {d : Addr} {t : List (Str × PyData)} {p : Pos}
theorem de_ixT (D : GDict X.K X.w d t) (hb : PE X b (tD X.K io fb)) (hg : Gl X x) (hm : X.mg x = some (.ref d)) (hs : PlainIx b) (hd : (x == ("__debug__" : Str)) = false := by decide) :
    PE X (.Subscript (.Name x p) b pos) (tD X.K io (f1 (oIxT t) fb)) := by
  obtain ⟨es, n, kd⟩ := D.kd
  refine (pe_ix (ix_kd kd) (pe_glob (v := .ref d) hg hm rfl hd) hb hs).imp fun σ H Q w => ?_
  refine td1 (r := fun y H1 Q => ∃ (z : Str) (u0 : Value) (v0 : V), V.ref d = .ref d ∧ y = .str z ∧ PySem.W.nsIn X.K d z = some (some u0) ∧ RelV v0 u0 ∧ Q v0 H1) ?_ w
  intro H A x z vx Q hA rx hz k
  cases x with
  | str y =>
    obtain ⟨e, _⟩ := rx.str
    obtain ⟨u, v, h1, h2, h3⟩ := D.yes y z hz
    exact ⟨y, u, v, rfl, e, h1, h2, k _ _ Frm.refl (h3 _ _)⟩
  | _ => cases hz
theorem de_inT (D : GDict X.K X.w d t) (ha : PE X a (tD X.K io fa)) (hg : Gl X x) (hm : X.mg x = some (.ref d)) (hmk : behindInMarks .In (.Name x p) = false := by rfl) (hd : (x == ("__debug__" : Str)) = false := by decide) :
    PE X (.Compare a [.In] [.Name x p] pos) (tD X.K io (f1 (oInT t id) fa)) := by
  obtain ⟨es, n, kd⟩ := D.kd
  refine (pe_cmpR (op_in_kd kd) ha (pe_glob (v := .ref d) hg hm rfl hd) hmk).imp fun σ H Q w => ?_
  refine td1 (r := fun x H1 Q => ∃ (z : Str) (r : Option Value), x = .str z ∧ V.ref d = .ref d ∧ PySem.W.nsIn X.K d z = some r ∧ Q (.bl r.isSome) H1) ?_ w
  intro H A x z vx Q hA rx hz k
  cases x with
  | str y =>
    cases hz
    obtain ⟨e, _⟩ := rx.str
    cases hl : tblLook t y with
    | some dd =>
      obtain ⟨u, v, h1, _⟩ := D.yes y dd hl
      exact ⟨y, some u, e, rfl, h1, k _ _ Frm.refl (by rw [hl]; exact rep_bl)⟩
    | none => exact ⟨y, none, e, rfl, D.no y hl, k _ _ Frm.refl (by rw [hl]; exact rep_bl)⟩
  | _ => cases hz
theorem de_notInT (D : GDict X.K X.w d t) (ha : PE X a (tD X.K io fa)) (hg : Gl X x) (hm : X.mg x = some (.ref d)) (hmk : behindInMarks .NotIn (.Name x p) = false := by rfl) (hd : (x == ("__debug__" : Str)) = false := by decide) :
    PE X (.Compare a [.NotIn] [.Name x p] pos) (tD X.K io (f1 (oInT t not) fa)) := by
  obtain ⟨es, n, kd⟩ := D.kd
  refine (pe_cmpR (op_notIn_kd kd) ha (pe_glob (v := .ref d) hg hm rfl hd) hmk).imp fun σ H Q w => ?_
  refine td1 (r := fun x H1 Q => ∃ (z : Str) (r : Option Value), x = .str z ∧ V.ref d = .ref d ∧ PySem.W.nsIn X.K d z = some r ∧ Q (.bl (!r.isSome)) H1) ?_ w
  intro H A x z vx Q hA rx hz k
  cases x with
  | str y =>
    cases hz
    obtain ⟨e, _⟩ := rx.str
    cases hl : tblLook t y with
    | some dd =>
      obtain ⟨u, v, h1, _⟩ := D.yes y dd hl
      exact ⟨y, some u, e, rfl, h1, k _ _ Frm.refl (by rw [hl]; exact rep_bl)⟩
    | none => exact ⟨y, none, e, rfl, D.no y hl, k _ _ Frm.refl (by rw [hl]; exact rep_bl)⟩
  | _ => cases hz
theorem dt_inT (D : GDict X.K X.w d t) (ha : PE X a (tD X.K io fa)) (hg : Gl X x) (hm : X.mg x = some (.ref d)) (hmk : behindInMarks .In (.Name x p) = false := by rfl) (hd : (x == ("__debug__" : Str)) = false := by decide) :
    PT X (.Compare a [.In] [.Name x p] pos) (cD X.K io (f1 asB (f1 (oInT t id) fa))) := by
  obtain ⟨es, n, kd⟩ := D.kd
  refine (pt_cmpR (op_in_kd kd) ha (pe_glob (v := .ref d) hg hm rfl hd) hmk).imp fun σ H Q w => ?_
  refine dt_of (t := tOp (fun x y H Q => ∃ (z : Str) (r : Option Value), x = .str z ∧ y = .ref d ∧ PySem.W.nsIn X.K d z = some r ∧ Q (.bl r.isSome) H) (tD X.K io fa) (tC (.ref d))) (fun σ H Q w => ?_) w
  refine td1 (r := fun x H1 Q => ∃ (z : Str) (r : Option Value), x = .str z ∧ V.ref d = .ref d ∧ PySem.W.nsIn X.K d z = some r ∧ Q (.bl r.isSome) H1) ?_ w
  intro H A x z vx Q hA rx hz k
  cases x with
  | str y =>
    cases hz
    obtain ⟨e, _⟩ := rx.str
    cases hl : tblLook t y with
    | some dd =>
      obtain ⟨u, v, h1, _⟩ := D.yes y dd hl
      exact ⟨y, some u, e, rfl, h1, k _ _ Frm.refl (by rw [hl]; exact rep_bl)⟩
    | none => exact ⟨y, none, e, rfl, D.no y hl, k _ _ Frm.refl (by rw [hl]; exact rep_bl)⟩
  | _ => cases hz
theorem dt_notInT (D : GDict X.K X.w d t) (ha : PE X a (tD X.K io fa)) (hg : Gl X x) (hm : X.mg x = some (.ref d)) (hmk : behindInMarks .NotIn (.Name x p) = false := by rfl) (hd : (x == ("__debug__" : Str)) = false := by decide) :
    PT X (.Compare a [.NotIn] [.Name x p] pos) (cD X.K io (f1 asB (f1 (oInT t not) fa))) := by
  obtain ⟨es, n, kd⟩ := D.kd
  refine (pt_cmpR (op_notIn_kd kd) ha (pe_glob (v := .ref d) hg hm rfl hd) hmk).imp fun σ H Q w => ?_
  refine dt_of (t := tOp (fun x y H Q => ∃ (z : Str) (r : Option Value), x = .str z ∧ y = .ref d ∧ PySem.W.nsIn X.K d z = some r ∧ Q (.bl (!r.isSome)) H) (tD X.K io fa) (tC (.ref d))) (fun σ H Q w => ?_) w
  refine td1 (r := fun x H1 Q => ∃ (z : Str) (r : Option Value), x = .str z ∧ V.ref d = .ref d ∧ PySem.W.nsIn X.K d z = some r ∧ Q (.bl (!r.isSome)) H1) ?_ w
  intro H A x z vx Q hA rx hz k
  cases x with
  | str y =>
    cases hz
    obtain ⟨e, _⟩ := rx.str
    cases hl : tblLook t y with
    | some dd =>
      obtain ⟨u, v, h1, _⟩ := D.yes y dd hl
      exact ⟨y, some u, e, rfl, h1, k _ _ Frm.refl (by rw [hl]; exact rep_bl)⟩
    | none => exact ⟨y, none, e, rfl, D.no y hl, k _ _ Frm.refl (by rw [hl]; exact rep_bl)⟩
  | _ => cases hz
end
end DL

namespace DL
open PySem PySem.Spec PyProof.Rows L2

def vL (fl : Lf) : Ef := fun E => (fl E).map fun r => (PyData.list r.1, r.2)
def fLst1 (fr : Af) : Lf := fun E => (fr E).bind fun r => (onlyV r.1).bind fun ds => if ds.length ≤ sizeLine then some (ds, r.2) else none
def fListOf (fr : Af) : Lf := fun E => (fr E).bind fun r => (resAll r.2 r.1).bind fun ds => match ds with | [.list xs] => some (xs, r.2) | [.tuple xs] => some (xs, r.2) | _ => none
section
variable {X : Cx} {K : PySem.W.Frag} {io : List Nat} {a b c e x tg elt iter : Expr} {ifs es : List Expr} {fa fb fe : Ef} {fr : Af} {ga gt : Ev Bool} {pos : Pos} {f g h : Sf} {st : Stmt} {sts : List Stmt}
theorem sD_vl {fl : Lf} {τ : Tf} {Dn : Ends} {σ : L2.St} {H : Hp} (ht : TOk io τ) (w : sD K io (sAsg (vL fl) τ) Dn σ H) : tAsg (lD K io fl) (gD K τ) Dn σ H := by
  have w' := sD_asg ht w
  obtain ⟨Γ, ad, E, d, E1, ok, he, q⟩ := w'
  obtain ⟨⟨ds, E2⟩, h1, h2⟩ := Option.map_eq_some_iff.mp he
  cases h2
  refine ⟨Γ, ad, E, ds, E2, ok, h1, fun p vs H' fr hp hl hz ok' r sim => ?_⟩
  have np : ¬ Ao Γ io ad E p := fun z => ok.on p z hp
  refine q _ H' fr (ok'.unwith ok.w) sim (rep_lst ⟨np, .inl hl⟩ hz ((Go.less fun a z => ?_).repL ds vs r))
  rw [sim.Ao]
  exact z.elim (fun z => .inl (.inl z)) .inr
theorem ds_setLcO {i : Nat} {y : Str} {py : Pos} {scope : Scope} {own : List (Str × Nat)} {pos spos : Pos} {fl : Lf} {τ : Tf} (hi' : i ∉ io) (hy : X.N[i]? = some y) (hyl : X.env.scope.names.lookup y = some .local)
    (hsw : swapsWith (.ListComp elt [⟨tg, iter, ifs, 0⟩] scope pos) (some (.Name y py)) spos.line X.env = pure true) (ht : TOk io τ) (hv : TIn (own.map (·.2)) τ) (hc : X.calm = true) (hN : X.N.Nodup) (hi : PI X tg iter (iD X.K io fl)) (ok : BlkOk X.N X.env.scope scope own)
    (hg : ∀ (s : Shared) (H : Hp) (C : Addr) (cl : List (Str × Addr)) (fp : List Addr), PG (X.blk s H scope (compEnvC scope cl C X.env) fp) tg (gD X.K τ)) (hts : ∀ (s : Shared) (H : Hp) (C : Addr) (cl : List (Str × Addr)) (fp : List Addr), PTs (X.blk s H scope (compEnvC scope cl C X.env) fp) ifs (cD X.K io gt))
    (he : ∀ (s : Shared) (H : Hp) (C : Addr) (cl : List (Str × Addr)) (fp : List Addr), PE (X.blk s H scope (compEnvC scope cl C X.env) fp) elt (tD X.K io fe)) (hs : ∀ x, foldedSetIterable iter X.env x = pure x := by intro _; rfl) :
    PS X (.Assign [.Name y py] (.ListComp elt [⟨tg, iter, ifs, 0⟩] scope pos) spos) (sD X.K io (sOwn i (fLc (own.map (·.2)) fl τ gt fe))) :=
  (ps_setLc hc hN hy hyl hsw hi ok hg hts he hs).imp fun Dn σ H w => lc_sound ht hv (sD_own hi' w)
theorem gD_name {i : Nat} {x : V} {σ : L2.St} {H : Hp} {k : L2.St → Hp → Prop} (w : gD K (τN i) x σ H k) : gName i x σ H k := by
  unfold gD at w
  obtain ⟨A, d, as, r, e, q⟩ := w
  cases e
  exact q [(i, x)] ⟨x, [], rfl, r, rfl⟩
theorem ds_setLcV {i : Nat} {y : Str} {py : Pos} {scope : Scope} {own : List (Str × Nat)} {pos spos : Pos} {fl : Lf} {τ : Tf} (hi' : i ∉ io) (hy : X.N[i]? = some y) (hyl : X.env.scope.names.lookup y = some .local)
    (hsw : swapsWith (.ListComp elt [⟨tg, iter, ifs, 0⟩] scope pos) (some (.Name y py)) spos.line X.env = pure true) (ht : TOk io τ) (hv : TIn (own.map (·.2)) τ) (hc : X.calm = true) (hN : X.N.Nodup) (hi : PI X tg iter (iD X.K io fl)) (ok : BlkOk X.N X.env.scope scope own)
    (hg : ∀ (s : Shared) (H : Hp) (C : Addr) (cl : List (Str × Addr)) (fp : List Addr), PG (X.blk s H scope (compEnvC scope cl C X.env) fp) tg (gD X.K τ)) (hts : ∀ (s : Shared) (H : Hp) (C : Addr) (cl : List (Str × Addr)) (fp : List Addr), PTs (X.blk s H scope (compEnvC scope cl C X.env) fp) ifs (cD X.K io gt))
    (he : ∀ (s : Shared) (H : Hp) (C : Addr) (cl : List (Str × Addr)) (fp : List Addr), PE (X.blk s H scope (compEnvC scope cl C X.env) fp) elt (tD X.K io fe)) (hs : ∀ x, foldedSetIterable iter X.env x = pure x := by intro _; rfl) :
    PS X (.Assign [.Name y py] (.ListComp elt [⟨tg, iter, ifs, 0⟩] scope pos) spos) (sD X.K io (sAsg (vL (fLc (own.map (·.2)) fl τ gt fe)) (τN i))) :=
  (ps_setLc hc hN hy hyl hsw hi ok hg hts he hs).imp fun Dn σ H w => by
    have w' := sD_vl (tok_n hi') w
    refine lc_sound ht hv ?_
    obtain ⟨Γ, ad, E, ds, E', ok, h1, q⟩ := w'
    exact ⟨Γ, ad, E, ds, E', ok, h1, fun p vs H' a1 a2 a3 a4 a5 a6 a7 => gD_name (q p vs H' a1 a2 a3 a4 a5 a6 a7)⟩
end
section
variable {P : Program} {w : World} {K : PySem.W.Frag} {mg : Str → Option Value} {base : Heap} {CX : CXT} {k n : Nat} {f : Addr} {fd : FuncData} {ps : List Str} {io : List Nat}
theorem notyet (hn : n = ps.length := by rfl) : FnOk P w K mg base CX k f fd ps (spF K n io fun _ => none) :=
  ⟨fun vs H Q E ⟨_, _, _, _, _, _, _, _, h, _⟩ => (nomatch h), fun A outer s H args us vs Q E _ _ _ _ ⟨_, _, _, _, _, _, _, _, h, _⟩ => (nomatch h)⟩
theorem notyetL (hn : n = ps.length := by rfl) : FnOk P w K mg base CX k f fd ps (spL K n io fun _ => none) :=
  ⟨fun vs H Q E ⟨_, _, _, _, _, _, _, _, h, _⟩ => (nomatch h), fun A outer s H args us vs Q E _ _ _ _ ⟨_, _, _, _, _, _, _, _, h, _⟩ => (nomatch h)⟩
end
end DL

namespace DL
open PySem PySem.Spec PyProof.Rows L2

/-- K holds no list -/
def noLst (K : PySem.W.Frag) : Bool := K.all fun q => match q.2.cls with
  | .type n => !(n == "list")
  | _ => true
theorem noLst_rd {K : PySem.W.Frag} (h : noLst K = true) {H : Hp} {a : Addr} {xs : List V} (s : SqL K H a xs) : Rd H a (.lst xs) := by
  rcases s with s | ⟨o, its, n, h1, h2, _⟩
  · exact s
  · have hm : (a, o) ∈ K := by
      clear h
      induction K with
      | nil => cases h1
      | cons q K ih =>
        obtain ⟨b, p⟩ := q
        rw [List.lookup_cons] at h1
        split at h1
        · rename_i e
          cases h1
          have := beq_iff_eq.mp e
          subst this
          exact List.mem_cons_self
        · exact List.mem_cons_of_mem _ (ih h1)
    have := List.all_eq_true.mp h _ hm
    rw [show (a, o).2.cls = .type "list" from h2] at this
    cases this
/-- a law of a script, started -/
theorem sp_script {K : PySem.W.Frag} {fn : Fn} (hK : noLst K = true) {H : Hp} {a : Addr} {ns : List Int} {E : XK} (hl : ns.length ≤ sizeLine) (s : SqL K H a (ns.map V.int)) {E' : Env'} (h : fn [B.v (.list (ns.map .int))] = some (.bool true, E')) :
    spF K 1 [] fn [.ref a] H (fun v _ => v = .bl true) E := by
  have r : RepL K H (fun _ => False) (ns.map PyData.int) (ns.map V.int) := by
    clear h s hl
    induction ns with
    | nil => exact repL_nil
    | cons n ns ih => exact repL_cons (by unfold RepD; rfl) ih
  refine ⟨⟨fun _ => False, fun _ => False, H⟩, fun _ => 0, [B.v (.list (ns.map .int))], .bool true, E', ⟨rfl, fun a h => h.elim, fun a h => h.elim, fun a h => h, fun i d z => ?_, fun i m z => ?_, fun i m z => ?_, fun i m z => ?_, fun i j m m' z => ?_⟩, rfl, fun i m z => ?_, h, fun v H' _ _ rd => rd⟩
  · cases i with
    | zero =>
      cases z
      refine ⟨_, rfl, rep_lst ⟨fun z => z.elim id fun ⟨i, m, h1, h2, _⟩ => ?_, noLst_rd hK s⟩ (by rw [List.length_map]; exact hl) ((Go.less fun a z => ?_).repL _ _ r)⟩
      · cases i with
        | zero => cases h2
        | succ i => simp at h2
      · exact z.elim id fun ⟨i, m, h1, h2, _⟩ => by
          cases i with
          | zero => cases h2
          | succ i => simp at h2
    | succ i => simp at z
  all_goals
    cases i with
    | zero => cases z
    | succ i => simp at z
end DL

namespace DL
open PySem PySem.Spec PyProof.Rows L2

/-! ### plain lemmas for the laws' arithmetic -/
theorem szLe (n : Nat) : (n ≤ sizeLine) = (n ≤ 16777216) := rfl
theorem atI_nat {α : Type} {xs : List α} {i : Nat} {x : α} (h : xs[i]? = some x) : atI xs (i : Int) = some x := by
  have hi : i < xs.length := (List.getElem?_eq_some_iff.mp h).1
  unfold atI ixN
  rw [if_pos (by omega), if_pos (by omega)]
  simpa using h
theorem atI_0 {α : Type} (x : α) (xs : List α) : atI (x :: xs) 0 = some x := atI_nat (i := 0) rfl
theorem atI_1 {α : Type} (x y : α) (xs : List α) : atI (x :: y :: xs) 1 = some y := atI_nat (i := 1) rfl
theorem atI_2 {α : Type} (x y z : α) (xs : List α) : atI (x :: y :: z :: xs) 2 = some z := atI_nat (i := 2) rfl
theorem atI_in {α : Type} {xs : List α} {i : Int} (h0 : 0 ≤ i) (h : i < xs.length) : ∃ x ∈ xs, atI xs i = some x ∧ xs[i.toNat]? = some x := by
  obtain ⟨n, rfl⟩ := Int.eq_ofNat_of_zero_le h0
  have hn : n < xs.length := by omega
  exact ⟨xs[n], List.getElem_mem hn, atI_nat (List.getElem?_eq_getElem hn), by rw [Int.toNat_natCast]; exact List.getElem?_eq_getElem hn⟩
theorem forL_inv {τ : Tf} {body : Sf} (I : Nat → Env' → Prop) : ∀ {ds : List PyData} {E : Env'}, I ds.length E → (∀ d ∈ ds, ∀ n E, I (n + 1) E → ∃ as E', τ d = some as ∧ body (setE E as) = some (.nx E') ∧ I n E') → ∃ E', forL τ body ds E = some (.nx E') ∧ I 0 E'
  | [], E, h, _ => ⟨E, rfl, h⟩
  | d :: ds, E, h, hs => by
    obtain ⟨as, E', h1, h2, h3⟩ := hs d List.mem_cons_self _ E h
    obtain ⟨E2, h4, h5⟩ := forL_inv I (ds := ds) (E := E') h3 fun d hd => hs d (List.mem_cons_of_mem _ hd)
    refine ⟨E2, ?_, h5⟩
    unfold forL
    rw [h1]
    show (body (setE E as)).bind _ = _
    rw [h2]
    exact h4
theorem lcL_pure {vs : List Nat} {τ : Tf} {fe : Ef} {E : Env'} (g : PyData → PyData) : ∀ {ds : List PyData}, (∀ d ∈ ds, ∃ as E2, τ d = some as ∧ fe (setE E as) = some (g d, E2) ∧ wipeE E2 vs = E) → lcL vs τ gYes fe ds E = some (ds.map g, E)
  | [], _ => rfl
  | d :: ds, h => by
    obtain ⟨as, E2, h1, h2, h3⟩ := h d List.mem_cons_self
    have ih := lcL_pure g (ds := ds) fun d hd => h d (List.mem_cons_of_mem _ hd)
    unfold lcL
    rw [h1]
    show ((fe (setE E as)).bind fun s => (lcL vs τ gYes fe ds (wipeE s.2 vs)).map fun t => (s.1 :: t.1, t.2)) = _
    rw [h2]
    show ((lcL vs τ gYes fe ds (wipeE E2 vs)).map fun t => (g d :: t.1, t.2)) = _
    rw [h3, ih]
    rfl
theorem allB_map (g : PyData → Bool) (ds : List PyData) : allB (ds.map fun d => .bool (g d)) = some (ds.map g) := by
  induction ds with
  | nil => rfl
  | cons d ds ih =>
    show (some (g d)).bind (fun b => (allB (ds.map fun d => .bool (g d))).map fun bs => b :: bs) = _
    rw [ih]
    rfl
/-- a hand with draws left -/
def Hd (n : Nat) (m : M) : Prop := ∃ g h c : Int, m = .lst [.int g, .int h, .int c] ∧ 0 ≤ g ∧ 0 ≤ h ∧ h < 2 ^ 62 ∧ 0 ≤ c ∧ c + n ≤ 2 ^ 40
theorem Hd.less {n k : Nat} {m : M} (h : Hd n m) (hk : k ≤ n) : Hd k m := by
  obtain ⟨g, h, c, e, h1, h2, h3, h4, h5⟩ := h
  exact ⟨g, h, c, e, h1, h2, h3, h4, by omega⟩
theorem log2_lt {i : Int} {k : Nat} (hk : 0 < k) (h : i.natAbs < 2 ^ k) : i.natAbs.log2 < k := by
  by_cases z : i.natAbs = 0
  · rw [z]; simpa using hk
  · exact (Nat.log2_lt z).mpr h
theorem modBit (x : Int) (k : Nat) (h0 : 0 ≤ x) (h : x < k) : ∃ j : Nat, j < k ∧ x = j := by
  obtain ⟨n, rfl⟩ := Int.eq_ofNat_of_zero_le h0
  exact ⟨n, by omega, rfl⟩
def absI (i : Int) : Int := if i < 0 then -i else i
theorem oAbs_i (i : Int) : oAbs [.int i] = some (.int (absI i)) := rfl
theorem absI_nn (i : Int) : 0 ≤ absI i := by unfold absI; split <;> omega
def b2i (b : Bool) : Int := if b then 1 else 0
theorem oInt_b (b : Bool) : oInt [.bool b] = some (.int (b2i b)) := rfl
theorem oInt_i (i : Int) : oInt [.int i] = some (.int i) := rfl
theorem b2i_nn (b : Bool) : 0 ≤ b2i b := by cases b <;> decide
theorem b2i_le (b : Bool) : b2i b ≤ 1 := by cases b <;> decide
theorem lg7 : Nat.log2 7 = 2 := by decide
theorem lg7919 : Nat.log2 7919 = 12 := by decide
theorem lg104729 : Nat.log2 104729 = 16 := by decide
theorem lg60 : Nat.log2 1000000000000000000000000000000000000000000000000000000000000 = 199 := by decide
theorem beqS (a z : Str) : (a == z) = decide (z = a) := by
  by_cases h : a = z
  · subst h; simp
  · rw [decide_eq_false fun e => h e.symm]; exact beq_eq_false_iff_ne.mpr h
theorem cutP_1 {α : Type} (x : α) (xs : List α) : cutP (x :: xs) (some 1) none = xs := by
  unfold cutP
  rw [show (some (1 : Int)) = some ((1 : Nat) : Int) from rfl, HT.sIx_nat, HT.sIx_none, List.length_cons, show min 1 (xs.length + 1) = 1 by omega]
  show xs.take (xs.length + 1 - 1) = xs
  exact List.take_of_length_le (by omega)
theorem cutP_0 {α : Type} : cutP ([] : List α) (some 1) none = [] := rfl
theorem cutP_lo {α : Type} (xs : List α) (i : Nat) : cutP xs (some (i : Int)) none = xs.drop i := by
  unfold cutP
  rw [HT.sIx_nat, HT.sIx_none]
  by_cases h : i ≤ xs.length
  · rw [Nat.min_eq_left h]
    exact List.take_of_length_le (by rw [List.length_drop]; omega)
  · rw [Nat.min_eq_right (by omega), List.drop_eq_nil_of_le (Nat.le_refl _), List.drop_eq_nil_of_le (by omega)]
    simp
theorem cutP_hi {α : Type} (xs : List α) (i : Nat) : cutP xs none (some (i : Int)) = xs.take i := by
  unfold cutP
  rw [HT.sIx_nat, HT.sIx_none]
  show xs.take (min i xs.length - 0) = xs.take i
  rw [Nat.sub_zero]
  by_cases h : i ≤ xs.length
  · rw [Nat.min_eq_left h]
  · rw [Nat.min_eq_right (by omega), List.take_of_length_le (Nat.le_refl _), List.take_of_length_le (by omega)]
theorem cutP_lo1 {α : Type} (xs : List α) (i : Nat) : cutP xs (some ((i : Int) + 1)) none = xs.drop (i + 1) := cutP_lo xs (i + 1)
/-- no tuple of more than a million things, nor deeper than n -/
def Sm : Nat → PyData → Prop
  | 0, .tuple _ => False
  | n + 1, .tuple xs => xs.length ≤ 1000000 ∧ ∀ x ∈ xs, Sm n x
  | _, _ => True
theorem Sm.mono : ∀ {n k : Nat} {d : PyData}, n ≤ k → Sm n d → Sm k d
  | n, k, .none, _, _ => by cases k <;> trivial
  | n, k, .bool _, _, _ => by cases k <;> trivial
  | n, k, .int _, _, _ => by cases k <;> trivial
  | n, k, .str _, _, _ => by cases k <;> trivial
  | n, k, .list _, _, _ => by cases k <;> trivial
  | n, k, .dict _, _, _ => by cases k <;> trivial
  | 0, k, .tuple xs, _, h => h.elim
  | n + 1, 0, .tuple xs, hk, _ => by omega
  | n + 1, k + 1, .tuple xs, hk, h => ⟨h.1, fun x hx => Sm.mono (by omega) (h.2 x hx)⟩
theorem sm_str (n : Nat) (z : Str) : Sm n (.str z) := by cases n <;> trivial
theorem sm_int (n : Nat) (z : Int) : Sm n (.int z) := by cases n <;> trivial
theorem xSeq {f g : Sf} {E E1 : Env'} {o : Option O} (h : f E = some (.nx E1)) (k : g E1 = o) : sSeq f g E = o := by
  unfold sSeq; rw [h]; exact k
theorem xSeqR {f g : Sf} {E E1 : Env'} {d : PyData} (h : f E = some (.rt d E1)) : sSeq f g E = some (.rt d E1) := by
  unfold sSeq; rw [h]; rfl
theorem xIfT {gc : Ev Bool} {f g : Sf} {E E1 : Env'} {o : Option O} (h : gc E = some (true, E1)) (k : f E1 = o) : sIf gc f g E = o := by
  unfold sIf; rw [h]; exact k
theorem xIfF {gc : Ev Bool} {f g : Sf} {E E1 : Env'} {o : Option O} (h : gc E = some (false, E1)) (k : g E1 = o) : sIf gc f g E = o := by
  unfold sIf; rw [h]; exact k
/-- a test that does not hold, and nothing else -/
theorem xNo {gc : Ev Bool} {f g : Sf} {E E1 : Env'} {o : Option O} (h : gc E = some (false, E1)) (k : g E1 = o) : sSeq (sIf gc f sNil) g E = o := xSeq (xIfF h rfl) k
/-- a test that holds and returns -/
theorem xYes {gc : Ev Bool} {f g : Sf} {E E1 E2 : Env'} {d : PyData} (h : gc E = some (true, E1)) (k : f E1 = some (.rt d E2)) : sSeq (sIf gc f sNil) g E = some (.rt d E2) := xSeqR (xIfT h k)
theorem xBody {io : List Nat} {pad : Nat} {f : Sf} {E E0 E' os : Env'} {d : PyData} (hE : E ++ List.replicate pad B.u = E0) (h : f E0 = some (.rt d E')) (ho : outs io E' = os) : bodyFn io pad f E = some (d, os) := by
  unfold bodyFn; rw [hE, h]; subst ho; rfl
theorem eSeq {f g : Sf} {E : Env'} {I : Env' → Prop} {Q : O → Prop} (h : ∃ E1, f E = some (.nx E1) ∧ I E1) (k : ∀ E1, I E1 → ∃ o, g E1 = some o ∧ Q o) : ∃ o, sSeq f g E = some o ∧ Q o := by
  obtain ⟨E1, h1, h2⟩ := h
  obtain ⟨o, h3, h4⟩ := k E1 h2
  exact ⟨o, xSeq h1 h3, h4⟩
theorem eNx {f : Sf} {E : Env'} {I : Env' → Prop} (h : ∃ o, f E = some o ∧ ∃ E', o = .nx E' ∧ I E') : ∃ E', f E = some (.nx E') ∧ I E' := by
  obtain ⟨o, h1, E', rfl, h2⟩ := h
  exact ⟨E', h1, h2⟩
theorem eFor {fl : Lf} {τ : Tf} {body : Sf} {E E1 : Env'} {ds : List PyData} (I : Nat → Env' → Prop) (hl : fl E = some (ds, E1)) (h0 : I ds.length E1) (hs : ∀ d ∈ ds, ∀ n E, I (n + 1) E → ∃ as E', τ d = some as ∧ body (setE E as) = some (.nx E') ∧ I n E') : ∃ E', sFor fl τ body E = some (.nx E') ∧ I 0 E' := by
  obtain ⟨E', h1, h2⟩ := forL_inv I (ds := ds) (E := E1) h0 hs
  refine ⟨E', ?_, h2⟩
  unfold sFor
  rw [hl]
  exact h1
theorem eBody {io : List Nat} {pad : Nat} {f : Sf} {E E0 : Env'} {d : PyData} (hE : E ++ List.replicate pad B.u = E0) (h : ∃ o, f E0 = some o ∧ ∃ E', o = .rt d E') : ∃ E', bodyFn io pad f E = some (d, E') := by
  obtain ⟨o, h1, E', rfl⟩ := h
  exact ⟨_, xBody hE h1 rfl⟩
theorem mem_rng {d : PyData} {n : Nat} (h : d ∈ rngD 0 n) : ∃ i : Nat, i < n ∧ d = .int i := by
  unfold rngD at h
  obtain ⟨i, hi, rfl⟩ := List.mem_map.mp h
  exact ⟨i, List.mem_range.mp hi, by rw [Int.zero_add]⟩
theorem fLc_pure {vs : List Nat} {fl : Lf} {τ : Tf} {fe : Ef} {E E1 Ew E3 : Env'} {ds : List PyData} (g : PyData → PyData) (hl : fl E = some (ds, E1)) (ho : vs.any (fun i => isOwn E1[i]?) = false) (hw : wipeE E1 vs = Ew) (hb : backE E1 Ew vs = E3)
    (h : ∀ d ∈ ds, ∃ as E2, τ d = some as ∧ fe (setE Ew as) = some (g d, E2) ∧ wipeE E2 vs = Ew) : fLc vs fl τ gYes fe E = some (ds.map g, E3) := by
  unfold fLc
  rw [hl]
  show (if (vs.any fun i => isOwn E1[i]?) = true then none else (lcL vs τ gYes fe ds (wipeE E1 vs)).map fun t => (t.1, backE E1 t.2 vs)) = _
  rw [ho, hw, lcL_pure g h]
  show some (ds.map g, backE E1 Ew vs) = _
  rw [hb]
end DL

namespace DL
open PySem PySem.Spec PyProof.Rows L2
section
variable {X : Cx} {K : PySem.W.Frag} {io : List Nat} {a b c o e : Expr} {es : List Expr} {fa fb fc fo : Ef} {fr : Af} {ga gb : Ev Bool} {pos apos cpos : Pos} {name : Str}
/-! ### a < b < c -/
theorem td_chain {r r' : R2} {g g' : PyData → PyData → Option PyData} (hr : RS X.K r g) (hr' : RS X.K r' g') {σ : L2.St} {H : Hp} {Q : VK} (w : tD X.K io (fChain g g' fa fb fc) σ H Q) : tChain r r' (tD X.K io fa) (tD X.K io fb) (tD X.K io fc) σ H Q := by
  show tD X.K io fa σ H fun x H1 => tD X.K io fb σ H1 fun y H2 => r x y H2 fun z H3 => ∃ k, z = .bl k ∧ (if k = true then tD X.K io fc σ H3 fun w' H4 => r' y w' H4 Q else Q (.bl false) H3)
  refine rd_then (f := fa) (g := fun x E1 => (fb E1).bind fun s => ((g x s.1).bind asB).bind fun k => if k then (fc s.2).bind fun t => (g' s.1 t.1).map fun z => (z, t.2) else some (.bool false, s.2)) (fun _ => rfl) w fun Γ ad E x vx H1 y E1 E2 h1 h2 ok1 fr1 sim1 r1 k => ?_
  obtain ⟨⟨y', E3⟩, h3, h4⟩ := Option.bind_eq_some_iff.mp h2
  refine ⟨Γ, ad, E1, y', E3, ok1, h3, fun vy H2 fr2 ok2 sim2 r2 => ?_⟩
  obtain ⟨kb, h5, h6⟩ := Option.bind_eq_some_iff.mp h4
  obtain ⟨z, h7, h8⟩ := Option.bind_eq_some_iff.mp h5
  have e1 : RepD X.K H2 (Ao Γ io ad E1) x vx := (Go.frm fr2 ok1.wa).rep x vx (by rw [sim1.Ao]; exact r1)
  refine hr H2 (Ao Γ io ad E1) x y' z vx vy _ (by rw [← sim2.Ao]; exact ok2.on) (.d e1) (.d r2) h7 fun v H3 fr3 r3 => ?_
  cases z with
  | bool b =>
    cases h8
    refine ⟨kb, r3, ?_⟩
    have ok3 := ok2.new fr3
    cases kb with
    | false =>
      cases h6
      rw [if_neg Bool.false_ne_true]
      exact k _ H3 (fr2.trans' fr3.of0) ok3 sim2 (by unfold RepD; rfl)
    | true =>
      rw [if_pos rfl]
      obtain ⟨⟨t, E4⟩, h9, h10⟩ := Option.bind_eq_some_iff.mp h6
      obtain ⟨z', hz, e⟩ := Option.map_eq_some_iff.mp h10
      cases e
      refine ⟨Γ, ad, E3, t, E4, ok3, h9, fun vt H4 fr4 ok4 sim4 r4 => ?_⟩
      have e2 : RepD X.K H4 (Ao Γ io ad E3) y' vy := (Go.frm fr4 ok3.wa).rep y' vy ((Go.frm0 fr3).rep y' vy (by rw [sim2.Ao]; exact r2))
      refine hr' H4 (Ao Γ io ad E3) y' t y vy vt Q (by rw [← sim4.Ao]; exact ok4.on) (.d e2) (.d r4) hz fun v' H5 fr5 r5 => ?_
      have f24 : Frm (Wo Γ io ad E1) H3 H4 := by rw [sim2.Wo] at fr4; exact fr4
      exact k v' H5 ((fr2.trans' fr3.of0).trans' (f24.trans' fr5.of0)) (ok4.new fr5) (sim2.trans sim4) (by rw [sim2.Ao] at r5; exact r5)
  | _ => cases h8
theorem de_chain {op op' : CmpOp} {r r' : R2} {g g' : PyData → PyData → Option PyData} (ho : OpR X (compareOp op) r) (hr : RS X.K r g) (ho' : OpR X (compareOp op') r') (hr' : RS X.K r' g') (ha : PE X a (tD X.K io fa)) (hb : PE X b (tD X.K io fb)) (hc : PE X c (tD X.K io fc))
    (hm : lastMarks [op, op'] [b, c] = false := by with_unfolding_all rfl) : PE X (.Compare a [op, op'] [b, c] pos) (tD X.K io (fChain g g' fa fb fc)) := (pe_chain ho ho' ha hb hc hm).imp fun _ _ _ => td_chain hr hr'
theorem dt_chain {op op' : CmpOp} {r r' : R2} {g g' : PyData → PyData → Option PyData} (ho : OpR X (compareOp op) r) (hr : RS X.K r g) (ho' : OpR X (compareOp op') r') (hr' : RS X.K r' g') (ha : PE X a (tD X.K io fa)) (hb : PE X b (tD X.K io fb)) (hc : PE X c (tD X.K io fc))
    (hm : lastMarks [op, op'] [b, c] = false := by with_unfolding_all rfl) : PT X (.Compare a [op, op'] [b, c] pos) (cD X.K io (f1 asB (fChain g g' fa fb fc))) := (pt_chain ho ho' ha hb hc hm).imp fun _ _ _ => dt_of fun _ _ _ => td_chain hr hr'
/-! ### methods of texts -/
def MS (K : PySem.W.Frag) (r : V → List V → Hp → VK → Prop) (g : List PyData → Option PyData) : Prop := (∀ d ds z, g (d :: ds) = some z → isStr d = true) ∧
  ∀ (H : Hp) (A : Addr → Prop) (s : Str) (ds : List PyData) (z : PyData) (vs : List V) (Q : VK), (∀ a, A a → H a ≠ none) → RepSL K H A ds vs → g (.str s :: ds) = some z → (∀ v H', Frm F0 H H' → RepD K H' A z v → Q v H') → r (.str s) vs H Q
theorem tdM {r : V → List V → Hp → VK → Prop} {g : List PyData → Option PyData} (hr : MS X.K r g) {σ : L2.St} {H : Hp} {Q : VK} (w : tD X.K io (fB g (aV fo fr)) σ H Q) : tBM X.K "str" r (tD X.K io fo) (aD X.K io fr) σ H Q := by
  obtain ⟨Γ, ad, E, z, E', ok, he, q⟩ := w
  obtain ⟨⟨gs, E2⟩, h1, h2⟩ := Option.bind_eq_some_iff.mp he
  obtain ⟨⟨d, E1⟩, h3, h4⟩ := Option.bind_eq_some_iff.mp h1
  obtain ⟨⟨gs', E2'⟩, h5, h6⟩ := Option.map_eq_some_iff.mp h4
  cases h6
  obtain ⟨ds0, h7, h8⟩ := Option.bind_eq_some_iff.mp h2
  obtain ⟨z', hz, e⟩ := Option.map_eq_some_iff.mp h8
  cases e
  have h7' : (resAll E2' gs').map (fun ds => d :: ds) = some ds0 := h7
  obtain ⟨ds, h9, e⟩ := Option.map_eq_some_iff.mp h7'
  subst e
  have hd := hr.1 _ _ _ hz
  refine ⟨Γ, ad, E, d, E1, ok, h3, fun v H1 fr1 ok1 sim1 r1 => ?_⟩
  cases d with
  | str s =>
    obtain ⟨e1, _⟩ : v = .str s ∧ True := ⟨by unfold RepD at r1; exact r1.1, trivial⟩
    subst e1
    refine ⟨rfl, Γ, ad, E1, gs', E2', ok1, h5, fun vs H2 fr2 ok2 sim2 r2 => ?_⟩
    refine hr.2 H2 _ s ds z vs Q ok2.on (res_rep ok2 h9 (by rw [sim2.Ao]; exact r2)) hz fun v' H3 fr3 r3 => ?_
    rw [sim1.Wo] at fr2
    refine q v' H3 ((fr1.trans' fr2).trans' fr3.of0) (ok2.new fr3) (sim1.trans sim2) ?_
    rw [sim2.Ao, sim1.Ao] at r3
    exact r3
  | _ => cases hd
theorem de_bmS {id : String} {r : V → List V → Hp → VK → Prop} {g : List PyData → Option PyData} (pa : PlainAttrs "str") (slot : Slot "str" name id) (hty : typeOf (.builtin id) = pure (.type "method_descriptor")) (hm : MtR X id r) (hr : MS X.K r g) (ho : PE X o (tD X.K io fo)) (ha : PA X (e :: es) (aD X.K io fr))
    (hbase : attributeBase o name X.env (eval o X.env) = eval o X.env := by rfl)
    (hfew : ((backTo cpos (starEach (e :: es) X.env)).all (fun x => !x.1) && (backToKw cpos (keywordEach [] X.env)).all (fun x => x.1.isSome)
      && decide ((e :: es).length + ([] : List Keyword).length + (if ([] : List Keyword).isEmpty then 0 else 1) < 30)) = true := by rfl)
    (hline : (apos.endLine == cpos.line) = true := by rfl) (hs : starEach (e :: es) X.env = (false, eval e X.env) :: starEach es X.env := by rfl) (hplain : (backTo cpos (starEach es X.env)).any (·.1) = false := by rfl) :
    PE X (.Call (.Attribute o name apos) (e :: es) [] cpos) (tD X.K io (fB g (aV fo fr))) := (pe_bm pa slot hty hm ho ha hbase hfew hline hs hplain).imp fun _ _ _ => tdM hr
def allS : List PyData → Option (List Str)
  | [] => some []
  | .str s :: ds => (allS ds).map fun r => s :: r
  | _ => none
theorem allS_rep {H : Hp} {A : Addr → Prop} : ∀ {ds : List PyData} {ys : List Str} {vs : List V}, allS ds = some ys → RepL K H A ds vs → vs = ys.map V.str
  | [], ys, vs, h, r => by cases h; unfold RepL at r; exact r
  | d :: ds, ys, vs, h, r => by
    unfold RepL at r
    obtain ⟨v, r', e, r1, r2⟩ := r
    cases d with
    | str s =>
      obtain ⟨ys', h1, h2⟩ := Option.map_eq_some_iff.mp h
      subst h2 e
      unfold RepD at r1
      rw [r1.1, allS_rep h1 r2]
      rfl
    | _ => cases h
def joinG (a : Str) (xs : List PyData) : Option PyData := (allS xs).bind fun ys => if (ys.map (·.length)).sum + ys.length * a.length ≤ 16777216 ∧ (Txt.join a ys).length ≤ sizeLine then some (.str (Txt.join a ys)) else none
def oJoin : List PyData → Option PyData
  | [.str a, .list xs] => joinG a xs
  | [.str a, .tuple xs] => joinG a xs
  | _ => none
theorem join_one {H : Hp} {A : Addr → Prop} {a : Str} {xs : List PyData} {vs : List V} {z : PyData} (r : RepL K H A xs vs) (hz : joinG a xs = some z) : ∃ ys : List Str, vs = ys.map V.str ∧ (ys.map (·.length)).sum + ys.length * a.length ≤ 16777216 ∧ z = .str (Txt.join a ys) ∧ (Txt.join a ys).length ≤ sizeLine := by
  obtain ⟨ys, h1, h2⟩ := Option.bind_eq_some_iff.mp hz
  split at h2
  · rename_i hc
    cases h2
    exact ⟨ys, allS_rep h1 r, hc.1, rfl, hc.2⟩
  · cases h2
theorem ms_join : MS K (fun x xs H Q => ∃ a p, ∃ ys : List Str, x = .str a ∧ xs = [.ref p] ∧ (SqL K H p (ys.map V.str) ∨ SqT K H p (ys.map V.str)) ∧ (ys.map (·.length)).sum + ys.length * a.length ≤ 16777216 ∧ Q (.str (Txt.join a ys)) H) oJoin := by
  refine ⟨fun d ds z h => ?_, fun H A s ds z vs Q hA rs hz k => ?_⟩
  · unfold oJoin at h
    split at h
    · rename_i e; cases e; rfl
    · rename_i e; cases e; rfl
    · cases h
  · unfold oJoin at hz
    split at hz
    · rename_i e
      cases e
      obtain ⟨v, e, r⟩ := rs.one
      obtain ⟨l, ws, e2, t, hl, r'⟩ := r.lst
      subst e e2
      obtain ⟨ys, e3, q1, e4, q2⟩ := join_one r' hz
      subst e3 e4
      exact ⟨_, _, ys, rfl, rfl, .inl (.inl t), q1, k _ _ Frm.refl (by unfold RepD; exact ⟨rfl, q2⟩)⟩
    · rename_i e
      cases e
      obtain ⟨v, e, r⟩ := rs.one
      obtain ⟨l, ws, e2, t, hl, r'⟩ := r.tup
      subst e e2
      obtain ⟨ys, e3, q1, e4, q2⟩ := join_one r' hz
      subst e3 e4
      exact ⟨_, _, ys, rfl, rfl, .inr t.sq, q1, k _ _ Frm.refl (by unfold RepD; exact ⟨rfl, q2⟩)⟩
    · cases hz
end
end DL

namespace DL
open PySem PySem.Spec PyProof.Rows L2
section
variable {X : Cx} {io : List Nat} {e : Expr} {es : List Expr} {fr : Af} {fa : Ef} {fl : Lf} {pos : Pos}
theorem sp_core {K : PySem.W.Frag} {n : Nat} {io' : List Nat} {fn : Fn} {EX : XK} {σ : L2.St} {H : Hp} {Q : VK} {Γ : Gm} {ad : Nat → Addr} {E0 : Env'} {d : PyData} {E' : Env'} (ok0 : EOk K Γ io ad σ H E0)
    (q : ∀ v H', Frm (Wo Γ io ad E0) H H' → EOk K Γ io ad σ H' E' → Sim E0 E' → RepD K H' (Ao Γ io ad E0) d v → Q v H') {gs : List G} {E1 : Env'} (hn : gs.length = n)
    (h2 : (if (slotsG gs 0).map (·.1) = io' ∧ ((slotsG gs 0).map (·.2)).Nodup then (argB E1 gs).bind fun bs => (fn bs).bind fun s => (putB E1 ((slotsG gs 0).map (·.2)) s.2).map fun E' => (s.1, E') else none) = some (d, E'))
    {vs : List V} {H1 : Hp} (fr1 : Frm (Wo Γ io ad E0) H H1) (ok1 : EOk K Γ io ad σ H1 E1) (sim1 : Sim E0 E1) (rg : RepG ad K H1 (Ao Γ io ad E0) gs vs) : spF K n io' fn (vs ++ []) H1 Q EX := by
  split at h2
  rotate_left
  · cases h2
  rename_i hc
  obtain ⟨hio, hnd⟩ := hc
  obtain ⟨bs, h3, h4⟩ := Option.bind_eq_some_iff.mp h2
  obtain ⟨⟨r, os⟩, h5, h6⟩ := Option.bind_eq_some_iff.mp h4
  obtain ⟨E2, h7, h8⟩ := Option.map_eq_some_iff.mp h6
  cases h8
  rw [List.append_nil]
  let sl := slotsG gs 0
  -- the callee's addresses
  let ad' : Nat → Addr := fun k => match gs[k]? with
    | some (.s i) => ad i
    | _ => 0
  have ad'_s : ∀ {k i : Nat}, gs[k]? = some (.s i) → ad' k = ad i := fun {k i} h => by show (match gs[k]? with | some (.s i) => ad i | _ => 0) = _; rw [h]
  let Γ' : Gm := ⟨Ao Γ io ad E0, fun a => ∃ k i, (k, i) ∈ sl ∧ a = ad i, H1⟩
  have aE : Ao Γ io ad E1 = Ao Γ io ad E0 := sim1.Ao
  have isO : ∀ {k i : Nat}, gs[k]? = some (.s i) → ∃ m, E1[i]? = some (B.o m) := by
    have : ∀ {gs : List G} {bs : Env'} {k i : Nat}, argB E1 gs = some bs → gs[k]? = some (.s i) → ∃ m, E1[i]? = some (B.o m) := by
      intro gs
      induction gs with
      | nil => intro bs k i _ e; simp at e
      | cons g gs ih =>
        intro bs k i h e
        cases g with
        | v d =>
          obtain ⟨bs', z1, z2⟩ := Option.map_eq_some_iff.mp h
          cases k with
          | zero => simp at e
          | succ k => exact ih z1 (by simpa using e)
        | s j =>
          unfold argB at h
          split at h
          · rename_i m hm
            obtain ⟨bs', z1, z2⟩ := Option.map_eq_some_iff.mp h
            cases k with
            | zero => simp at e; subst e; exact ⟨m, hm⟩
            | succ k => exact ih z1 (by simpa using e)
          · cases h
    exact fun {k i} h => this h3 h
  have inIo : ∀ {k i : Nat}, gs[k]? = some (.s i) → k ∈ io' := fun {k i} h => by
    rw [← hio]
    exact List.mem_map.mpr ⟨(k, i), slots_mem.mpr ⟨Nat.zero_le _, h⟩, rfl⟩
  have slotInj : ∀ {k k' i : Nat}, gs[k]? = some (.s i) → gs[k']? = some (.s i) → k = k' := by
    intro k k' i h h'
    have a1 : (k, i) ∈ sl := slots_mem.mpr ⟨Nat.zero_le _, h⟩
    have a2 : (k', i) ∈ sl := slots_mem.mpr ⟨Nat.zero_le _, h'⟩
    obtain ⟨n1, l1, e1⟩ := List.getElem_of_mem a1
    obtain ⟨n2, l2, e2⟩ := List.getElem_of_mem a2
    have hl : (sl.map (·.2)).length = sl.length := List.length_map _
    have : n1 = n2 := by
      refine (List.getElem_inj (h₀ := by rw [hl]; exact l1) (h₁ := by rw [hl]; exact l2) hnd).mp ?_
      rw [List.getElem_map, List.getElem_map, e1, e2]
    subst this
    rw [e1] at e2
    exact (Prod.mk.inj e2).1
  have noOwn : ∀ a, ¬ Own io' ad' bs a := fun a ⟨k, m, z1, z2, _⟩ => by
    obtain ⟨i, z3, _⟩ := argB_o h3 z2
    exact z1 (inIo z3)
  have aE' : ∀ a, Ao Γ' io' ad' bs a → Ao Γ io ad E0 a := fun a h => h.elim id fun z => absurd z (noOwn a)
  have len : vs.length = bs.length := by rw [repG_len rg, argB_len h3]
  refine ⟨Γ', ad', bs, _, os, ⟨by rw [List.length_map]; exact len, fun a h => ?_, fun a h => ?_, fun a h => h, fun k d z => ?_, fun k m z => ?_, fun k m z hk => ?_, fun k m z hk => ?_, fun k k' m m' z z' hz => ?_⟩, ?_, fun k m z => ?_, h5, fun v H2 fr2 objs rd => ?_⟩
  · obtain ⟨k, i, z1, z2⟩ := h
    obtain ⟨m, z3⟩ := isO (by simpa using (slots_mem.mp z1).2)
    show Ao Γ io ad E0 a
    rw [z2, ← aE]
    exact ok1.wa _ (ok1.wo z3)
  · exact ok1.on a (by rw [aE]; exact h)
  · obtain ⟨v, q1, q2⟩ := repG_v rg (argB_v h3 z)
    exact ⟨v, by rw [List.getElem?_map, q1] <;> rfl, (Go.less aE').rep d v q2⟩
  · obtain ⟨i, z1, z2⟩ := argB_o h3 z
    refine ⟨by rw [List.getElem?_map, repG_s rg z1, ad'_s z1] <;> rfl, ?_⟩
    rw [ad'_s z1]
    obtain ⟨_, z3⟩ := ok1.ob i m z2
    cases m with
    | lst xs => obtain ⟨ws, y0, y1, y2⟩ := z3; exact ⟨ws, y0, y1, (Go.less fun a h => by rw [aE]; exact aE' a h).repL xs ws y2⟩
  · obtain ⟨i, z1, z2⟩ := argB_o h3 z
    exact ⟨k, i, slots_mem.mpr ⟨Nat.zero_le _, z1⟩, ad'_s z1⟩
  · obtain ⟨i, z1, z2⟩ := argB_o h3 z
    exact absurd (inIo z1) hk
  · obtain ⟨i, z1, z2⟩ := argB_o h3 z
    obtain ⟨i', z1', z2'⟩ := argB_o h3 z'
    rw [ad'_s z1, ad'_s z1'] at hz
    have := ok1.inj i i' m m' z2 z2' hz
    subst this
    exact slotInj z1 z1'
  · rw [argB_len h3]; exact hn
  · obtain ⟨i, z1, z2⟩ := argB_o h3 z
    exact inIo z1
  · -- behind the call
    obtain ⟨sim2, out2, at2⟩ := putB_spec hnd (fun i hi => by
      obtain ⟨⟨k, i'⟩, z1, z2⟩ := List.mem_map.mp hi
      have z2 : i' = i := z2
      subst z2
      exact isO (by simpa using (slots_mem.mp z1).2)) h7
    have wsub : ∀ a, Γ'.W a → Wo Γ io ad E1 a := fun a ⟨k, i, z1, z2⟩ => by
      obtain ⟨m, z3⟩ := isO (by simpa using (slots_mem.mp z1).2)
      rw [z2]
      exact ok1.wo z3
    have fr2' : Frm (Wo Γ io ad E1) H1 H2 := ⟨fun a o h n => fr2.eq a o h fun z => n (wsub a z), fr2.on⟩
    have g : Go H1 (Ao Γ io ad E1) H2 (Ao Γ io ad E1) := Go.frm fr2' ok1.wa
    have aE2 := fun Γ => sim2.Ao (Γ := Γ) (io := io) (ad := ad)
    have eio : io' = sl.map (·.1) := hio.symm
    refine q v H2 (fr1.trans' (by rw [sim1.Wo] at fr2'; exact fr2')) ?_ (sim1.trans sim2) rd
    refine ⟨by rw [ok1.len, sim2.1], ok1.w, fun a h => fr2.on a (ok1.oA a h), fun a h => fr2.on a (ok1.hk a h), fun i d z => ?_, fun i m z => ?_, fun i m z hi => ?_, fun i m z hi => ?_, fun i j m m' z1 z2 => ?_⟩
    · rcases sim2.2 i with ⟨m1, m2, y1, y2⟩ | ⟨y1, y2⟩
      · rw [y2] at z; cases z
      · rw [y2] at z
        obtain ⟨u, x1, x2⟩ := ok1.vl i d z
        exact ⟨u, x1, by rw [aE2 Γ]; exact g.rep d u x2⟩
    · obtain ⟨m0, hm0⟩ := sim2.own.mp ⟨m, z⟩
      refine ⟨(ok1.ob i m0 hm0).1, ?_⟩
      rw [aE2 Γ]
      by_cases hi : i ∈ sl.map (·.2)
      · obtain ⟨⟨k, i'⟩, z1, z2⟩ := List.mem_map.mp hi
        have z2 : i' = i := z2
        subst z2
        obtain ⟨n, hn, en⟩ := List.getElem_of_mem z1
        have e1 : (sl.map (·.2))[n]? = some i' := by rw [List.getElem?_map, List.getElem?_eq_getElem hn, en] <;> rfl
        have e2 : io'[n]? = some k := by rw [eio, List.getElem?_map, List.getElem?_eq_getElem hn, en] <;> rfl
        obtain ⟨m3, e3, e4⟩ := at2 n i' e1
        rw [e4] at z
        cases z
        have o := objs n k m e2 e3
        rw [ad'_s (by simpa using (slots_mem.mp z1).2)] at o
        have o' : ObjD K H2 (Ao Γ io ad E0) (ad i') m := o
        rw [aE]
        exact o'
      · rw [out2 i hi] at z
        obtain ⟨_, z3⟩ := ok1.ob i m z
        have nw : ¬ Γ'.W (ad i) := fun ⟨k, j, z1, z2⟩ => by
          obtain ⟨m4, z4⟩ := isO (by simpa using (slots_mem.mp z1).2)
          have e := ok1.inj i j m m4 z z4 z2
          exact hi (List.mem_map.mpr ⟨(k, j), z1, e.symm⟩)
        cases m with
        | lst xs => obtain ⟨ws, y0, y1, y2⟩ := z3; exact ⟨ws, fr2.eq _ _ y0 nw, y1, g.repL xs ws y2⟩
    · obtain ⟨m0, hm0⟩ := sim2.own.mp ⟨m, z⟩; exact ok1.obi i m0 hm0 hi
    · obtain ⟨m0, hm0⟩ := sim2.own.mp ⟨m, z⟩; exact ok1.obn i m0 hm0 hi
    · obtain ⟨m3, z3⟩ := sim2.own.mp ⟨m, z1⟩
      obtain ⟨m4, z4⟩ := sim2.own.mp ⟨m', z2⟩
      exact ok1.inj i j m3 m4 z3 z4
def bD (K : PySem.W.Frag) (io : List Nat) (fr : Af) (fl : Lf) : TA := fun σ H Q => ∃ Γ ad E gs E1 ds E2, EOk K Γ io ad σ H E ∧ fr E = some (gs, E1) ∧ fl E1 = some (ds, E2) ∧ ∀ vs p ws H', Frm (Wo Γ io ad E) H H' → H p = none → H' p = some (.lst ws) → ws.length ≤ sizeLine →
  EOk K (Γ.with p) io ad σ H' E2 → RepL K H' (Ao (Γ.with p) io ad E2) ds ws → Sim E E2 → RepG ad K H' (Ao (Γ.with p) io ad E) gs vs → Q (vs ++ [.ref p]) H'
theorem db_l (he : PE X e (lD X.K io fl)) (hs : starEach [e] X.env = (false, eval e X.env) :: starEach [] X.env := by rfl) : PA X [e] (bD X.K io aNil fl) := (pa_cons he pa_nil hs).imp fun σ H Q w => by
  obtain ⟨Γ, ad, E, gs, E1, ds, E2, ok, h1, h2, q⟩ := w
  cases h1
  exact ⟨Γ, ad, E, ds, E2, ok, h2, fun p vs H' fr hp hl hz ok' r sim => q [] p vs H' fr hp hl hz ok' r sim (by unfold RepG; rfl)⟩
theorem db_v (he : PE X e (tD X.K io fa)) (hr : PA X es (bD X.K io fr fl)) (hs : starEach (e :: es) X.env = (false, eval e X.env) :: starEach es X.env := by rfl) : PA X (e :: es) (bD X.K io (aV fa fr) fl) := (pa_cons he hr hs).imp fun σ H Q w => by
  obtain ⟨Γ, ad, E, gs0, E1', ds, E2, ok, h1, h2, q⟩ := w
  obtain ⟨⟨d, Ea⟩, h3, h4⟩ := Option.bind_eq_some_iff.mp h1
  obtain ⟨⟨gs, E1⟩, h5, h6⟩ := Option.map_eq_some_iff.mp h4
  cases h6
  refine ⟨Γ, ad, E, d, Ea, ok, h3, fun v H1 fr1 ok1 sim1 r1 => ⟨Γ, ad, Ea, gs, _, ds, E2, ok1, h5, h2, fun vs p ws H2 fr2 hp hl hz ok2 r sim2 rg => ?_⟩⟩
  rw [← sim1.Ao] at r1
  have g : Go H1 (Ao Γ io ad Ea) H2 (Ao (Γ.with p) io ad Ea) := ⟨fun a o h n => fr2.eq a o h fun z => n (ok1.wa a z), fun a z => by
    rcases z with (z | z) | z
    · exact .inl (.inl z)
    · subst z; exact .inr hp
    · exact .inl (.inr z)⟩
  have r1' := g.rep d v r1
  rw [sim1.Ao] at r1' rg
  rw [sim1.Wo] at fr2
  exact q (v :: vs) p ws H2 (fr1.trans' fr2) (frm_none fr1 hp) hl hz ok2 r (sim1.trans sim2) ⟨v, vs, rfl, r1', rg⟩
theorem db_s {i : Nat} (he : PE X e (tVar i)) (hr : PA X es (bD X.K io fr fl)) (hs : starEach (e :: es) X.env = (false, eval e X.env) :: starEach es X.env := by rfl) : PA X (e :: es) (bD X.K io (aS i fr) fl) := (pa_cons he hr hs).imp fun σ H Q w => by
  obtain ⟨Γ, ad, E, gs0, E1', ds, E2, ok, h1, h2, q⟩ := w
  unfold aS at h1
  split at h1
  · rename_i m hd
    obtain ⟨⟨gs, E1⟩, h5, h6⟩ := Option.map_eq_some_iff.mp h1
    cases h6
    exact ⟨_, (ok.ob i m hd).1, Γ, ad, E, gs, _, ds, E2, ok, h5, h2, fun vs p ws H2 fr2 hp hl hz ok2 r sim2 rg => q (.ref (ad i) :: vs) p ws H2 fr2 hp hl hz ok2 r sim2 ⟨vs, rfl, rg⟩⟩
  · cases h1
def slotLt (N : Nat) (gs : List G) : Bool := gs.all fun g => match g with
  | .s i => decide (i < N)
  | .v _ => true
def fCallT (io io' : List Nat) (fn : Fn) (fr : Af) (fl : Lf) : Ef := fun E => (fr E).bind fun r => (fl r.2).bind fun s => if s.2.length ∈ io ∨ slotLt s.2.length r.1 = false then none else (fCall io' fn (fun E' => some (r.1 ++ [.s s.2.length], E')) (s.2 ++ [B.o (.lst s.1)])).map fun t => (t.1, t.2.take s.2.length)
theorem repG_snoc {ad ad' : Nat → Addr} {K : PySem.W.Frag} {H : Hp} {A A' : Addr → Prop} {N : Nat} {p : Addr} (h1 : ∀ j, j < N → ad' j = ad j) (h2 : ad' N = p) (hA : ∀ d v, RepD K H A d v → RepD K H A' d v) : ∀ {gs : List G} {vs : List V}, (∀ j, G.s j ∈ gs → j < N) → RepG ad K H A gs vs → RepG ad' K H A' (gs ++ [.s N]) (vs ++ [.ref p])
  | [], vs, _, h => by
    unfold RepG at h
    subst h
    exact ⟨[], by rw [h2] <;> rfl, rfl⟩
  | .v d :: gs, vs, hj, h => by
    obtain ⟨v, r, e, q1, q2⟩ := h
    subst e
    exact ⟨v, _, rfl, hA d v q1, repG_snoc h1 h2 hA (fun j hh => hj j (List.mem_cons_of_mem _ hh)) q2⟩
  | .s i :: gs, vs, hj, h => by
    obtain ⟨r, e, q2⟩ := h
    subst e
    exact ⟨_, by rw [h1 i (hj i List.mem_cons_self)] <;> rfl, repG_snoc h1 h2 hA (fun j hh => hj j (List.mem_cons_of_mem _ hh)) q2⟩
theorem sp_callT {K : PySem.W.Frag} {n : Nat} {io' : List Nat} {fn : Fn} {EX : XK} (hn : ALen fr n) {σ : L2.St} {H : Hp} {Q : VK} (w : tD K io (fCallT io io' fn fr fl) σ H Q) : bD K io fr fl σ H fun vs H1 => spF K (n + 1) io' fn (vs ++ []) H1 Q EX := by
  obtain ⟨Γ, ad, E, d, E', ok, he, q⟩ := w
  obtain ⟨⟨gs, E1⟩, h1, h2⟩ := Option.bind_eq_some_iff.mp he
  obtain ⟨⟨ds, E2⟩, h3, h4⟩ := Option.bind_eq_some_iff.mp h2
  simp only at h4
  split at h4
  · cases h4
  rename_i hN'
  have hN : E2.length ∉ io := fun z => hN' (.inl z)
  have hS : slotLt E2.length gs = true := by
    cases hh : slotLt E2.length gs with
    | true => rfl
    | false => exact absurd (.inr hh) hN'
  obtain ⟨⟨d', E3⟩, h5, h6⟩ := Option.map_eq_some_iff.mp h4
  cases h6
  refine ⟨Γ, ad, E, gs, E1, ds, E2, ok, h1, h3, fun vs p ws H' fr hp hl hz ok' r sim rg => ?_⟩
  let ad' : Nat → Addr := fun j => if j = E2.length then p else ad j
  have adN : ad' E2.length = p := if_pos rfl
  have adj : ∀ j, j ≠ E2.length → ad' j = ad j := fun j h => if_neg h
  let Ex : Env' := E2 ++ [B.o (.lst ds)]
  have exl : ∀ (j : Nat) (b : B), Ex[j]? = some b → (j < E2.length ∧ E2[j]? = some b) ∨ (j = E2.length ∧ b = B.o (.lst ds)) := fun j b z => by
    by_cases c : j < E2.length
    · rw [List.getElem?_append_left c] at z; exact .inl ⟨c, z⟩
    · rw [List.getElem?_append_right (by omega)] at z
      by_cases c2 : j = E2.length
      · subst c2; rw [Nat.sub_self] at z; cases z; exact .inr ⟨rfl, rfl⟩
      · rw [show j - E2.length = (j - E2.length - 1) + 1 by omega] at z; simp at z
  have exN : Ex[E2.length]? = some (B.o (.lst ds)) := by
    rw [List.getElem?_append_right (Nat.le_refl _), Nat.sub_self] <;> rfl
  have exlt : ∀ (j : Nat) (b : B), E2[j]? = some b → Ex[j]? = some b := fun j b z => by
    rw [List.getElem?_append_left (List.getElem?_eq_some_iff.mp z).1]; exact z
  have own_lt : ∀ {E4 : Env'} {j : Nat} {m : M}, E4[j]? = some (B.o m) → j < E4.length := fun z => (List.getElem?_eq_some_iff.mp z).1
  have aEq : Ao Γ io ad' Ex = Ao (Γ.with p) io ad E2 := by
    funext a
    refine propext ⟨fun z => ?_, fun z => ?_⟩
    · rcases z with z | ⟨i, m, z1, z2, z3⟩
      · exact .inl (.inl z)
      · rcases exl i _ z2 with ⟨c, z4⟩ | ⟨c, _⟩
        · exact .inr ⟨i, m, z1, z4, by rw [z3, adj i (by omega)]⟩
        · subst c; exact .inl (.inr (by rw [z3, adN]))
    · rcases z with (z | z) | ⟨i, m, z1, z2, z3⟩
      · exact .inl z
      · exact .inr ⟨_, _, hN, exN, by rw [adN]; exact z⟩
      · have c := own_lt z2
        exact .inr ⟨i, m, z1, exlt i _ z2, by rw [adj i (by omega)]; exact z3⟩
  have npA : ¬ Γ.A p := fun z => ok.oA p z hp
  have okx : EOk K Γ io ad' (σ ++ [some (.ref p)]) H' Ex := by
    refine ⟨by rw [List.length_append, List.length_append, ok'.len] <;> rfl, ok.w, fun a h => ok'.oA a (.inl h), ok'.hk, fun i d z => ?_, fun i m z => ?_, fun i m z hi => ?_, fun i m z hi => ?_, fun i j m m' z1 z2 e => ?_⟩
    · rcases exl i _ z with ⟨c, z⟩ | ⟨_, z⟩
      · obtain ⟨v, q1, q2⟩ := ok'.vl i d z
        exact ⟨v, by rw [List.getElem?_append_left (by rw [ok'.len]; exact c)]; exact q1, by rw [aEq]; exact q2⟩
      · cases z
    · rcases exl i _ z with ⟨c, z⟩ | ⟨c, z⟩
      · obtain ⟨q1, q2⟩ := ok'.ob i m z
        rw [adj i (by omega), aEq]
        exact ⟨by rw [List.getElem?_append_left (by rw [ok'.len]; exact c)]; exact q1, q2⟩
      · cases z
        subst c
        rw [adN, aEq]
        exact ⟨by rw [List.getElem?_append_right (by rw [ok'.len] <;> exact Nat.le_refl _), ok'.len, Nat.sub_self] <;> rfl, ws, hl, hz, r⟩
    · rcases exl i _ z with ⟨c, z⟩ | ⟨c, _⟩
      · rw [adj i (by omega)]; exact ok'.obi i m z hi
      · subst c; exact absurd hi hN
    · rcases exl i _ z with ⟨c, z⟩ | ⟨c, _⟩
      · rw [adj i (by omega)]
        obtain ⟨q1, q2⟩ := ok'.obn i m z hi
        exact ⟨q1, fun y => q2 (.inl y)⟩
      · subst c
        rw [adN]
        refine ⟨?_, npA⟩
        cases qh : Γ.H p with
        | none => rfl
        | some o => exact absurd hp (ok.hk p (by rw [qh]; exact fun z => nomatch z))
    · have ne : ∀ (k : Nat) (m : M), E2[k]? = some (B.o m) → ad k ≠ p := fun k m z e => by
        by_cases hi : k ∈ io
        · exact ok.oA _ (ok.w _ (ok'.obi k m z hi)) (by rw [e]; exact hp)
        · exact (ok'.obn k m z hi).2 (.inr e)
      rcases exl i _ z1 with ⟨c1, z1⟩ | ⟨c1, _⟩
      · rcases exl j _ z2 with ⟨c2, z2⟩ | ⟨c2, _⟩
        · rw [adj i (by omega), adj j (by omega)] at e
          exact ok'.inj i j m m' z1 z2 e
        · subst c2
          rw [adN, adj i (by omega)] at e
          exact absurd e (ne i m z1)
      · rcases exl j _ z2 with ⟨c2, z2⟩ | ⟨c2, _⟩
        · subst c1
          rw [adN, adj j (by omega)] at e
          exact absurd e.symm (ne j m' z2)
        · omega
  have lE : E2.length = E.length := sim.1
  have wX : ∀ a, Wo Γ io ad' Ex a → Wo Γ io ad E a ∨ H a = none := fun a z => by
    rcases z with z | ⟨i, m, z1, z2, z3⟩
    · exact .inl (.inl z)
    · rcases exl i _ z2 with ⟨c, z4⟩ | ⟨c, _⟩
      · obtain ⟨m', z5⟩ := sim.own.mp ⟨m, z4⟩
        exact .inl (.inr ⟨i, m', z1, z5, by rw [z3, adj i (by omega)]⟩)
      · subst c; rw [adN] at z3; subst z3; exact .inr hp
  have aX : ∀ a, Ao Γ io ad E a → Ao Γ io ad' Ex a := fun a z => by
    rw [aEq]
    rw [← sim.Ao] at z
    exact z.elim (fun z => .inl (.inl z)) .inr
  have gsl : ∀ j, G.s j ∈ gs → j < E2.length := fun j hj => by
    have := List.all_eq_true.mp hS _ hj
    exact of_decide_eq_true this
  refine sp_core (io' := io') (fn := fn) (Γ := Γ) (ad := ad') (E0 := Ex) (E1 := Ex) (σ := σ ++ [some (.ref p)]) (H := H') (d := d') (E' := E3) okx (fun v H'' fr3 ok3 sim3 r3 => ?_) (gs := gs ++ [G.s E2.length]) (by rw [List.length_append, hn h1] <;> rfl) h5 Frm.refl okx (Sim.refl _) ?_
  · have l3 : E3.length = E2.length + 1 := by rw [sim3.1, List.length_append] <;> rfl
    have tk : ∀ (j : Nat) (b : B), (E3.take E2.length)[j]? = some b → j < E2.length ∧ E3[j]? = some b := fun j b z => by
      have c : j < (E3.take E2.length).length := (List.getElem?_eq_some_iff.mp z).1
      rw [List.length_take] at c
      rw [List.getElem?_take_of_lt (by omega)] at z
      exact ⟨by omega, z⟩
    have aT : ∀ a, Ao Γ io ad (E3.take E2.length) a → Ao Γ io ad' E3 a := fun a z => by
      rcases z with z | ⟨i, m, z1, z2, z3⟩
      · exact .inl z
      · obtain ⟨c, z2⟩ := tk i _ z2
        exact .inr ⟨i, m, z1, z2, by rw [adj i (by omega)]; exact z3⟩
    refine q v H'' (fr.trans fr3 wX) ⟨by rw [List.length_take, l3, Nat.min_eq_left (by omega)]; exact ok'.len, ok.w, ok3.oA, ok3.hk, fun i d z => ?_, fun i m z => ?_, fun i m z hi => ?_, fun i m z hi => ?_, fun i j m m' z1 z2 e => ?_⟩ ?_ ((Go.less aX).rep d' v r3)
    · obtain ⟨c, z⟩ := tk i _ z
      obtain ⟨u, q1, q2⟩ := ok3.vl i d z
      rw [List.getElem?_append_left (by rw [ok'.len]; exact c)] at q1
      exact ⟨u, q1, (Go.less aT).rep d u q2⟩
    · obtain ⟨c, z⟩ := tk i _ z
      obtain ⟨q1, q2⟩ := ok3.ob i m z
      rw [adj i (by omega)] at q1 q2
      rw [List.getElem?_append_left (by rw [ok'.len]; exact c)] at q1
      refine ⟨q1, ?_⟩
      cases m with
      | lst xs => obtain ⟨us, y0, y1, y2⟩ := q2; exact ⟨us, y0, y1, (Go.less aT).repL xs us y2⟩
    · obtain ⟨c, z⟩ := tk i _ z
      have := ok3.obi i m z hi
      rw [adj i (by omega)] at this
      exact this
    · obtain ⟨c, z⟩ := tk i _ z
      have := ok3.obn i m z hi
      rw [adj i (by omega)] at this
      exact this
    · obtain ⟨c1, z1⟩ := tk i _ z1
      obtain ⟨c2, z2⟩ := tk j _ z2
      exact ok3.inj i j m m' z1 z2 (by rw [adj i (by omega), adj j (by omega)]; exact e)
    · refine sim.trans ⟨by rw [List.length_take, l3, Nat.min_eq_left (by omega)], fun j => ?_⟩
      by_cases c : j < E2.length
      · have t1 : (E3.take E2.length)[j]? = E3[j]? := List.getElem?_take_of_lt c
        have t2 : Ex[j]? = E2[j]? := List.getElem?_append_left c
        have := sim3.2 j
        rw [t2] at this
        rw [t1]
        exact this
      · have t1 : (E3.take E2.length)[j]? = none := List.getElem?_eq_none (by rw [List.length_take]; omega)
        have t2 : E2[j]? = none := List.getElem?_eq_none (by omega)
        rw [t1, t2]
        exact .inr ⟨fun m z => (nomatch z), rfl⟩
  · exact repG_snoc (fun j h => adj j (by omega)) adN (fun d v r => by rw [aEq, sim.Ao]; exact r) gsl rg
theorem de_callT {k n : Nat} {f : Addr} {fd : FuncData} {ps : List Str} {io' : List Nat} {fn : Fn} {x : Str} {p : Pos} (F : FnOk X.prog X.w X.K X.mg X.base CX0 k f fd ps (spF X.K (n + 1) io' fn)) (hr : Room k X.A) (hg : Gl X x) (hm : X.mg x = some (.ref f)) (hk : PySem.W.keepIn X.K (.ref f) = true) (hb : Binds X.K fd ps []) (ha : PA X (e :: es) (bD X.K io fr fl)) (hl : ALen fr n)
    (hdb : (x == ("__debug__" : Str)) = false := by decide) (he : starEach (e :: es) X.env = (false, eval e X.env) :: starEach es X.env := by rfl) (hpl : (backTo pos (starEach es X.env)).any (·.1) = false := by rfl) :
    PE X (.Call (.Name x p) (e :: es) [] pos) (tD X.K io (fCallT io io' fn fr fl)) := (pe_call F hr hg hm hk hb .nil pass0 ha hdb he hpl).imp fun σ H Q w => sp_callT hl w
end
end DL

namespace DL
open PySem PySem.Spec PyProof.Rows L2
section
variable {X : Cx} {K : PySem.W.Frag} {io : List Nat} {e e2 : Expr} {fr : Af} {pos tpos : Pos} {elts : List Expr} {kk : Nat}
theorem walk_zipT {a b : Addr} {xs ys : List V} {n : Nat} (hn : n = min xs.length ys.length) : Walk (RZ.ItzT K a b) n (fun H => SqT K H a xs ∧ SqT K H b ys) (YPair (fun i => xs[i]?) (fun i => ys[i]?)) := by
  subst hn
  refine ⟨fun i _ hi q => ?_, fun _ q => ⟨xs, ys, q.1, q.2, by omega⟩, fun i H v H' _ q y => ?_⟩
  · have h1 : i < xs.length := by omega
    have h2 : i < ys.length := by omega
    exact ⟨xs, ys, xs[i], ys[i], q.1, q.2, by simp [h1], by simp [h2]⟩
  · obtain ⟨T, x, y', h1, h2, h3, h4, h5⟩ := y
    exact ⟨T, x, y', h1, h2, h3, h4 xs q.1, h5 ys q.2⟩
def fZ {β : Type} (g : List PyData → Option β) (fr : Af) : Ev β := fun E => (fr E).bind fun r => (onlyV r.1).bind fun ds => (g ds).map fun z => (z, r.2)
def itZ : List PyData → Option (List PyData)
  | [.list xs, .list ys] => some (List.zipWith (fun x y => .tuple [x, y]) xs ys)
  | [.tuple xs, .tuple ys] => some (List.zipWith (fun x y => .tuple [x, y]) xs ys)
  | _ => none
theorem repL_two {H : Hp} {A : Addr → Prop} {d d2 : PyData} {vs : List V} (h : RepL K H A [d, d2] vs) : ∃ v u, vs = [v, u] ∧ RepD K H A d v ∧ RepD K H A d2 u := by
  unfold RepL at h
  obtain ⟨v, r, rfl, h1, h2⟩ := h
  unfold RepL at h2
  obtain ⟨u, r, rfl, h3, h4⟩ := h2
  unfold RepL at h4
  subst h4
  exact ⟨v, u, rfl, h1, h3⟩
theorem its_zip {H : Hp} {A : Addr → Prop} {xs ys : List PyData} {vs us : List V} {G : Hp → Prop} (hz : vs.length ≤ sizeLine) (r1 : RepL K H A xs vs) (r2 : RepL K H A ys us) (hG : ∀ H2 A2, Go H A H2 A2 → G H2) :
    Its' K H A (List.zipWith (fun x y => .tuple [x, y]) xs ys) G (YPair (fun i => vs[i]?) (fun i => us[i]?)) := by
  refine ⟨by rw [List.length_zipWith]; have := r1.length; omega, fun H2 A2 g hA => ⟨hG H2 A2 g, fun i x H3 d hd y => ?_⟩⟩
  obtain ⟨T, v, u, e1, e2, e3, e4, e5⟩ := y
  subst e1 e3
  rw [List.getElem?_zipWith] at hd
  cases q1 : xs[i]? with
  | none => rw [q1] at hd; cases hd
  | some dx => cases q2 : ys[i]? with
    | none => rw [q1, q2] at hd; cases hd
    | some dy =>
      rw [q1, q2] at hd
      cases hd
      obtain ⟨v', z1, z2⟩ := (g.repL _ _ r1).get q1
      obtain ⟨u', z3, z4⟩ := (g.repL _ _ r2).get q2
      have e4' : vs[i]? = some v := e4
      have e5' : us[i]? = some u := e5
      rw [e4'] at z1
      rw [e5'] at z3
      cases z1
      cases z3
      have f := Frm.new (H := H2) (p := T) (o := .tup [v, u]) e2
      have g2 : Go H2 A2 (upd H2 T (.tup [v, u])) A2 := Go.frm0 f
      exact ⟨f, rep_tup (.inl ⟨fun z => hA T z e2, .inl upd_same⟩) (show 2 ≤ sizeLine by decide) (repL_cons (g2.rep _ _ z2) (repL_cons (g2.rep _ _ z4) repL_nil))⟩
theorem di_zip {p : Pos} (hg : Gl X "zip") (hm : X.mg "zip" = none) (ha : PA X [e, e2] (aD X.K io fr))
    (hs : starEach [e, e2] X.env = (false, eval e X.env) :: starEach [e2] X.env := by rfl) (hpl : (backTo pos (starEach [e2] X.env)).any (·.1) = false := by rfl) :
    PI X (.Tuple elts kk tpos) (.Call (.Name "zip" p) [e, e2] [] pos) (iD X.K io (fZ itZ fr)) := (RZ.pi_zipA hg hm ha hs hpl).imp fun σ H R w => by
  obtain ⟨Γ, ad, E, zs, E', ok, he, q⟩ := w
  obtain ⟨⟨gs, E1⟩, h1, h2⟩ := Option.bind_eq_some_iff.mp he
  obtain ⟨ds, h3, h4⟩ := Option.bind_eq_some_iff.mp h2
  obtain ⟨z, h5, h6⟩ := Option.map_eq_some_iff.mp h4
  cases h6
  refine ⟨Γ, ad, E, gs, E1, ok, h1, fun vs H1 fr1 ok1 sim1 r1 => ?_⟩
  have r := RepG.repL (onlyV_map h3) r1
  unfold itZ at h5
  split at h5
  · cases h5
    obtain ⟨v, u, e1, ra, rb⟩ := repL_two r
    obtain ⟨a, xs, e3, t, hz, r3⟩ := ra.lst
    obtain ⟨b, ys, e4, t2, hz2, r4⟩ := rb.lst
    subst e1 e3 e4
    refine ⟨a, b, xs, ys, rfl, .inl ⟨t.sq, t2.sq, q _ _ _ _ H1 fr1 ok1 sim1 (walk_zip (xs := xs) (ys := ys) rfl) (by rw [List.length_zipWith, r3.length, r4.length]) ?_⟩⟩
    rw [sim1.Ao]
    exact its_zip hz r3 r4 fun H2 A2 g => ⟨(g.lst t).sq, (g.lst t2).sq⟩
  · cases h5
    obtain ⟨v, u, e1, ra, rb⟩ := repL_two r
    obtain ⟨a, xs, e3, t, hz, r3⟩ := ra.tup
    obtain ⟨b, ys, e4, t2, hz2, r4⟩ := rb.tup
    subst e1 e3 e4
    refine ⟨a, b, xs, ys, rfl, .inr ⟨t.sq, t2.sq, q _ _ _ _ H1 fr1 ok1 sim1 (walk_zipT (xs := xs) (ys := ys) rfl) (by rw [List.length_zipWith, r3.length, r4.length]) ?_⟩⟩
    rw [sim1.Ao]
    exact its_zip hz r3 r4 fun H2 A2 g => ⟨(g.tup t).sq, (g.tup t2).sq⟩
  · cases h5
/-- a test that is itself a if c else b -/
def fIfC (gc ga gb : Ev Bool) : Ev Bool := fun E => (gc E).bind fun r => if r.1 = true then ga r.2 else gb r.2
theorem dt_ifE {a b c : Expr} {gc ga gb : Ev Bool} (hc : PT X c (cD X.K io gc)) (ha : PT X a (cD X.K io ga)) (hb : PT X b (cD X.K io gb)) : PT X (.IfExp c a b pos) (cD X.K io (fIfC gc ga gb)) := ⟨fun pins s σ H Q I w => by
  have w' : cD X.K io gc σ H fun k H1 => if k = true then cD X.K io ga σ H1 Q else cD X.K io gb σ H1 Q := by
    refine rd_then (f := gc) (g := fun x E1 => if x = true then ga E1 else gb E1) (fun _ => rfl) w fun Γ ad E x vx H1 y E1 E2 h1 h2 ok1 fr1 sim1 r1 k => ?_
    cases r1
    cases x with
    | true => exact ⟨Γ, ad, E1, y, E2, ok1, h2, fun v H' f ok s r => k v H' f ok s r⟩
    | false => exact ⟨Γ, ad, E1, y, E2, ok1, h2, fun v H' f ok s r => k v H' f ok s r⟩
  refine isTrue_IfExp (thn (hc.run pins s σ H _ I w') fun d s1 ⟨H1, I1, q1⟩ => ?_)
  cases d with
  | true => exact ha.run pins s1 σ H1 Q I1 q1
  | false => exact hb.run pins s1 σ H1 Q I1 q1⟩
end
end DL

namespace DL
open PySem PySem.Spec PyProof.Rows L2
/-- a comprehension with a test -/
theorem lcL_filt {vs : List Nat} {τ : Tf} {gt : Ev Bool} {fe : Ef} {E : Env'} (p : PyData → Bool) (g : PyData → PyData) : ∀ {ds : List PyData}, (∀ d ∈ ds, ∃ as E1, τ d = some as ∧ gt (setE E as) = some (p d, E1) ∧ wipeE E1 vs = E ∧ (p d = true → ∃ E2, fe E1 = some (g d, E2) ∧ wipeE E2 vs = E)) → lcL vs τ gt fe ds E = some ((ds.filter p).map g, E)
  | [], _ => rfl
  | d :: ds, h => by
    obtain ⟨as, E1, h1, h2, h3, h4⟩ := h d List.mem_cons_self
    have ih := lcL_filt p g (ds := ds) fun d hd => h d (List.mem_cons_of_mem _ hd)
    unfold lcL
    rw [h1]
    show ((gt (setE E as)).bind fun r => if r.1 = true then (fe r.2).bind fun s => (lcL vs τ gt fe ds (wipeE s.2 vs)).map fun t => (s.1 :: t.1, t.2) else lcL vs τ gt fe ds (wipeE r.2 vs)) = _
    rw [h2]
    show (if p d = true then (fe E1).bind fun s => (lcL vs τ gt fe ds (wipeE s.2 vs)).map fun t => (s.1 :: t.1, t.2) else lcL vs τ gt fe ds (wipeE E1 vs)) = _
    cases hp : p d with
    | true =>
      obtain ⟨E2, h5, h6⟩ := h4 hp
      rw [if_pos rfl, h5, List.filter_cons_of_pos hp]
      show ((lcL vs τ gt fe ds (wipeE E2 vs)).map fun t => (g d :: t.1, t.2)) = _
      rw [h6, ih]
      rfl
    | false =>
      rw [if_neg Bool.false_ne_true, h3, ih, List.filter_cons_of_neg (by rw [hp]; exact Bool.false_ne_true)]
theorem fLc_filt {vs : List Nat} {fl : Lf} {τ : Tf} {gt : Ev Bool} {fe : Ef} {E E1 Ew E3 : Env'} {ds : List PyData} (p : PyData → Bool) (g : PyData → PyData) (hl : fl E = some (ds, E1)) (ho : vs.any (fun i => isOwn E1[i]?) = false) (hw : wipeE E1 vs = Ew) (hb : backE E1 Ew vs = E3)
    (h : ∀ d ∈ ds, ∃ as E1, τ d = some as ∧ gt (setE Ew as) = some (p d, E1) ∧ wipeE E1 vs = Ew ∧ (p d = true → ∃ E2, fe E1 = some (g d, E2) ∧ wipeE E2 vs = Ew)) : fLc vs fl τ gt fe E = some ((ds.filter p).map g, E3) := by
  unfold fLc
  rw [hl]
  show (if (vs.any fun i => isOwn E1[i]?) = true then none else (lcL vs τ gt fe ds (wipeE E1 vs)).map fun t => (t.1, backE E1 t.2 vs)) = _
  rw [ho, hw, lcL_filt p g h]
  show some ((ds.filter p).map g, backE E1 Ew vs) = _
  rw [hb]
/-- the signs of a text, as texts -/
def sgn (z : Str) : List PyData := z.cps.toList.map fun c => .str ⟨#[c]⟩
theorem itS_str (z : Str) : itS (.str z) = some (sgn z) := rfl
theorem in_str (c : Nat) (z : Str) : oIn (.str ⟨#[c]⟩) (.str z) = some (.bool (decide (c ∈ z.cps.toList))) := by
  simp [oIn, inB]
theorem notIn_str (c : Nat) (z : Str) : oNotIn (.str ⟨#[c]⟩) (.str z) = some (.bool (!decide (c ∈ z.cps.toList))) := by
  simp [oNotIn, inB]
/-- two lists, one of them empty -/
def oEqL : PyData → PyData → Option PyData
  | .list xs, .list ys => if (xs.isEmpty || ys.isEmpty) = true then some (.bool (xs.isEmpty && ys.isEmpty)) else none
  | _, _ => none
def oNeL : PyData → PyData → Option PyData
  | .list xs, .list ys => if (xs.isEmpty || ys.isEmpty) = true then some (.bool (!(xs.isEmpty && ys.isEmpty))) else none
  | _, _ => none
def rEqLN (K : PySem.W.Frag) (f : Bool → Bool) : R2 := fun x y H Q => ∃ a b xs ys, x = .ref a ∧ y = .ref b ∧ SqL K H a xs ∧ SqL K H b ys ∧ (xs.isEmpty || ys.isEmpty) = true ∧ Q (.bl (f (xs.isEmpty && ys.isEmpty))) H
section
variable {X : Cx} {K : PySem.W.Frag}
theorem op_eqL (hu : X.A.units + 64 < cLine) : OpR X (compareOp .Eq) (rEqLN X.K id) := by
  intro pins s σ H x y v u Q I rx ry h
  obtain ⟨a, b, xs, ys, rfl, rfl, ta, tb, hn, q⟩ := h
  cases rx
  cases ry
  obtain ⟨its, r, p, _⟩ := I.list ta
  obtain ⟨its2, r2, p2, _⟩ := I.list tb
  have l1 := r.length
  have l2 := r2.length
  by_cases hs : its.toArray.size = its2.toArray.size
  · refine SeqAt.RcAt.lists (e := fun _ => false) p.isList p2.isList hs (by omega) (fun j h1 h2 => ?_) _ _ _ _ ?_
    · exfalso
      rw [List.size_toArray] at h1 h2
      cases xs with
      | nil => simp at l1; omega
      | cons x xs => cases ys with
        | nil => simp at l2; omega
        | cons y ys => cases hn
    · refine ⟨.bl _, H, I, ?_, q⟩
      show Value.bool _ = Value.bool _
      rw [List.size_toArray, List.size_toArray] at hs
      rw [List.size_toArray, ← l1]
      cases xs with
      | nil => cases ys with
        | nil => rfl
        | cons y ys => simp at l1 l2; omega
      | cons x xs => cases ys with
        | nil => simp at l1 l2; omega
        | cons y ys => cases hn
  · refine SeqAt.RcAt.lists_lengths p.isList p2.isList (bne_iff_ne.mpr hs) (by omega) _ _ _ _ ?_
    refine ⟨.bl _, H, I, ?_, q⟩
    show Value.bool _ = Value.bool _
    rw [List.size_toArray, List.size_toArray, ← l1, ← l2] at hs
    cases xs with
    | nil => cases ys with
      | nil => exact absurd rfl hs
      | cons y ys => rfl
    | cons x xs => rfl
theorem rs_eqL : RS K (rEqLN K id) oEqL := by
  intro H A x y z vx vy Q hA rx ry hz k
  unfold oEqL at hz
  split at hz
  · split at hz
    · rename_i hc
      cases hz
      obtain ⟨a, vs, e1, t1, z1, r1⟩ := rx.lst
      obtain ⟨b, us, e2, t2, z2, r2⟩ := ry.lst
      have l1 := r1.length
      have l2 := r2.length
      have em : ∀ {α β : Type} {xs : List α} {ys : List β}, xs.length = ys.length → xs.isEmpty = ys.isEmpty := fun {α β xs ys} h => by
        cases xs <;> cases ys <;> first | rfl | (simp at h)
      refine ⟨a, b, vs, us, e1, e2, .inl t1, .inl t2, by rw [em l1, em l2]; exact hc, k _ _ Frm.refl ?_⟩
      rw [em l1, em l2]
      unfold RepD
      rfl
    · cases hz
  · cases hz
end
end DL

namespace DL
open PySem PySem.Spec PyProof.Rows L2
/-! ### what an expression, a statement, a call leads to -/
/-- keeps simp out of what hangs on b -/
structure Tg {β : Sort _} (b : β) : Type where mk ::
def wo {β : Type} (o : Option β) (Q : β → Prop) (_t : Tg Q := ⟨⟩) : Prop := ∃ z, o = some z ∧ Q z
def we {α : Type} (f : Ev α) (E : Env') (Q : α → Env' → Prop) (_t : Tg Q := ⟨⟩) (_u : Tg f := ⟨⟩) : Prop := ∃ r, f E = some r ∧ Q r.1 r.2
def ws (f : Sf) (E : Env') (Q : O → Prop) (_t : Tg Q := ⟨⟩) (_u : Tg f := ⟨⟩) : Prop := ∃ o, f E = some o ∧ Q o
def wc {α : Type} (fn : Env' → Option (α × Env')) (A : Env') (Q : α → Env' → Prop) (_t : Tg Q := ⟨⟩) : Prop := ∃ r, fn A = some r ∧ Q r.1 r.2
def wif (b : Bool) (P Q : Prop) (_t : Tg P := ⟨⟩) (_u : Tg Q := ⟨⟩) : Prop := if b = true then P else Q
def wo0 {β : Type} (o : Option β) (Q : β → Prop) : Prop := ∃ z, o = some z ∧ Q z
def wif0 (b : Bool) (P Q : Prop) : Prop := if b = true then P else Q
theorem wo_0 {β : Type} (o : Option β) (Q : β → Prop) : wo o Q = wo0 o Q := rfl
theorem wif_0 (b : Bool) (P Q : Prop) : wif b P Q = wif0 b P Q := rfl
theorem wo0_some {β : Type} (z : β) (Q : β → Prop) : wo0 (some z) Q = Q z := by simp [wo0]
theorem wo0_none {β : Type} (Q : β → Prop) : wo0 none Q = False := by simp [wo0]
theorem wo0_bind {α β : Type} (x : Option α) (f : α → Option β) (Q : β → Prop) : wo0 (x.bind f) Q = wo0 x fun r => wo0 (f r) Q := by
  cases x <;> simp [wo0]
theorem wo0_map {α β : Type} (x : Option α) (f : α → β) (Q : β → Prop) : wo0 (x.map f) Q = wo0 x fun r => Q (f r) := by
  cases x <;> simp [wo0]
theorem wo0_ite {β : Type} (c : Prop) [Decidable c] (x y : Option β) (Q : β → Prop) : wo0 (if c then x else y) Q = wif0 (decide c) (wo0 x Q) (wo0 y Q) := by
  by_cases h : c <;> simp [h, wif0]
theorem wo0_ifb {β : Type} (c : Bool) (x y : Option β) (Q : β → Prop) : wo0 (if c = true then x else y) Q = wif0 c (wo0 x Q) (wo0 y Q) := by
  cases c <;> simp [wif0]
def wk (g : Sf) (Q : O → Prop) : O → Prop
  | .nx E => ws g E Q
  | o => Q o
def wr (io : List Nat) (Q : PyData → Env' → Prop) : O → Prop
  | .rt d E => Q d (outs io E)
  | .nx E => Q .none (outs io E)
  | _ => False
section
variable {α β γ : Type}
theorem wif_t (P Q : Prop) : wif true P Q = P := by simp [wif]
theorem wif_f (P Q : Prop) : wif false P Q = Q := by simp [wif]
theorem wif_by {b : Bool} {P Q : Prop} (h : b = true → P) (k : b = false → Q) : wif b P Q := by
  cases b
  · rw [wif_f]; exact k rfl
  · rw [wif_t]; exact h rfl
theorem wo_some (z : β) (Q : β → Prop) : wo (some z) Q = Q z := by simp [wo]
theorem wo_none (Q : β → Prop) : wo none Q = False := by simp [wo]
theorem wo_bind (x : Option α) (f : α → Option β) (Q : β → Prop) : wo (x.bind f) Q = wo x fun r => wo (f r) Q := by
  cases x <;> simp [wo]
theorem wo_map (x : Option α) (f : α → β) (Q : β → Prop) : wo (x.map f) Q = wo x fun r => Q (f r) := by
  cases x <;> simp [wo]
theorem wo_ite (c : Prop) [Decidable c] (x y : Option β) (Q : β → Prop) : wo (if c then x else y) Q = wif (decide c) (wo x Q) (wo y Q) := by
  by_cases h : c <;> simp [h, wif]
theorem wo_ifb (c : Bool) (x y : Option β) (Q : β → Prop) : wo (if c = true then x else y) Q = wif c (wo x Q) (wo y Q) := by
  cases c <;> simp [wif]
theorem we_o (f : Ev α) (E : Env') (Q : α → Env' → Prop) : we f E Q = wo0 (f E) fun r => Q r.1 r.2 := rfl
theorem ws_o (f : Sf) (E : Env') (Q : O → Prop) : ws f E Q = wo0 (f E) Q := rfl
theorem wk_nx (g : Sf) (Q : O → Prop) (E : Env') : wk g Q (.nx E) = ws g E Q := rfl
theorem wk_rt (g : Sf) (Q : O → Prop) (d : PyData) (E : Env') : wk g Q (.rt d E) = Q (.rt d E) := rfl
theorem wk_bk (g : Sf) (Q : O → Prop) (E : Env') : wk g Q (.bk E) = Q (.bk E) := rfl
theorem wk_ct (g : Sf) (Q : O → Prop) (E : Env') : wk g Q (.ct E) = Q (.ct E) := rfl
theorem wr_rt (io : List Nat) (Q : PyData → Env' → Prop) (d : PyData) (E : Env') : wr io Q (.rt d E) = Q d (outs io E) := rfl
theorem wr_nx (io : List Nat) (Q : PyData → Env' → Prop) (E : Env') : wr io Q (.nx E) = Q .none (outs io E) := rfl
/-! expressions -/
theorem we_C (d : PyData) (E : Env') (Q : PyData → Env' → Prop) : we (fC d) E Q = Q d E := by simp [we, fC]
theorem we_f1 (g : α → Option β) (fa : Ev α) (E : Env') (Q : β → Env' → Prop) : we (f1 g fa) E Q = we fa E fun x E1 => wo (g x) fun z => Q z E1 := by
  simp only [we_o, wo_0, wif_0, f1, wo0_bind, wo0_map]
theorem we_f2 (g : α → β → Option γ) (fa : Ev α) (fb : Ev β) (E : Env') (Q : γ → Env' → Prop) : we (f2 g fa fb) E Q = we fa E fun x E1 => we fb E1 fun y E2 => wo (g x y) fun z => Q z E2 := by
  simp only [we_o, wo_0, wif_0, f2, wo0_bind, wo0_map]
theorem we_f1s (g : PyData → Option β) (i : Nat) (E : Env') (Q : β → Env' → Prop) : we (f1s g i) E Q = wo (getO i E) fun xs => wo (g (.list xs)) fun z => Q z E := by
  rcases h : E[i]? with _ | (_ | d | ⟨⟨xs⟩⟩) <;> simp only [we_o, wo_0, wif_0, f1s, wo0_bind, wo0_map, ownL, getO, h, wo0_some, wo0_none]
theorem ownL_getO (i : Nat) (E : Env') : ownL i E = (getO i E).map PyData.list := by
  rcases h : E[i]? with _ | (_ | d | ⟨⟨xs⟩⟩) <;> simp [ownL, getO, h]
theorem we_f2l (g : PyData → PyData → Option γ) (i : Nat) (fb : Ef) (E : Env') (Q : γ → Env' → Prop) : we (f2l g i fb) E Q = wo (getO i E) fun _ => we fb E fun y E1 => wo (getO i E1) fun xs => wo (g (.list xs) y) fun z => Q z E1 := by
  simp only [we_o, wo_0, wif_0, f2l, wo0_bind, wo0_map, ownL_getO]
theorem we_f2r (g : PyData → PyData → Option γ) (fa : Ef) (i : Nat) (E : Env') (Q : γ → Env' → Prop) : we (f2r g fa i) E Q = we fa E fun x E1 => wo (getO i E1) fun ys => wo (g x (.list ys)) fun z => Q z E1 := by
  simp only [we_o, wo_0, wif_0, f2r, wo0_bind, wo0_map, ownL_getO]
theorem we_aNil (E : Env') (Q : List G → Env' → Prop) : we aNil E Q = Q [] E := by simp [we, aNil]
theorem we_aV (fe : Ef) (fr : Af) (E : Env') (Q : List G → Env' → Prop) : we (aV fe fr) E Q = we fe E fun d E1 => we fr E1 fun gs E2 => Q (.v d :: gs) E2 := by
  simp only [we_o, wo_0, wif_0, aV, wo0_bind, wo0_map]
theorem we_aS (i : Nat) (fr : Af) (E : Env') (Q : List G → Env' → Prop) : we (aS i fr) E Q = wo (getO i E) fun _ => we fr E fun gs E2 => Q (.s i :: gs) E2 := by
  rcases h : E[i]? with _ | (_ | d | ⟨⟨xs⟩⟩) <;> simp [we_o, wo_0, aS, getO, h, wo0]
  constructor
  · rintro ⟨a, b, ⟨c, h1, rfl⟩, h2⟩; exact ⟨c, b, h1, h2⟩
  · rintro ⟨a, b, h1, h2⟩; exact ⟨_, b, ⟨a, h1, rfl⟩, h2⟩
theorem resAll_nil (E : Env') : resAll E [] = some [] := rfl
theorem resAll_v (E : Env') (d : PyData) (gs : List G) : resAll E (.v d :: gs) = (resAll E gs).map fun ds => d :: ds := rfl
theorem resAll_s (E : Env') (i : Nat) (gs : List G) : resAll E (.s i :: gs) = (getO i E).bind fun xs => (resAll E gs).map fun ds => .list xs :: ds := by
  show (ownL i E).bind _ = _
  rw [ownL_getO]
  cases getO i E <;> rfl
theorem we_fB (g : List PyData → Option β) (fr : Af) (E : Env') (Q : β → Env' → Prop) : we (fB g fr) E Q = we fr E fun gs E1 => wo (resAll E1 gs) fun ds => wo (g ds) fun z => Q z E1 := by
  simp only [we_o, wo_0, wif_0, fB, wo0_bind, wo0_map]
theorem we_fZ (g : List PyData → Option β) (fr : Af) (E : Env') (Q : β → Env' → Prop) : we (fZ g fr) E Q = we fr E fun gs E1 => wo (onlyV gs) fun ds => wo (g ds) fun z => Q z E1 := by
  simp only [we_o, wo_0, wif_0, fZ, wo0_bind, wo0_map]
theorem onlyV_nil : onlyV [] = some [] := rfl
theorem onlyV_v (d : PyData) (gs : List G) : onlyV (.v d :: gs) = (onlyV gs).map fun ds => d :: ds := rfl
theorem we_fDisp (mk : List PyData → PyData) (fr : Af) (E : Env') (Q : PyData → Env' → Prop) : we (fDisp mk fr) E Q = we fr E fun gs E1 => wo (onlyV gs) fun ds => wif (decide (ds.length ≤ 16777216)) (Q (mk ds) E1) False := by
  simp only [we_o, wo_0, wif_0, fDisp, wo0_bind, wo0_ite, wo0_some, wo0_none]
  rfl
theorem we_fLst1 (fr : Af) (E : Env') (Q : List PyData → Env' → Prop) : we (fLst1 fr) E Q = we fr E fun gs E1 => wo (onlyV gs) fun ds => wif (decide (ds.length ≤ 16777216)) (Q ds E1) False := by
  simp only [we_o, wo_0, wif_0, fLst1, wo0_bind, wo0_ite, wo0_some, wo0_none]
  rfl
theorem we_vL (fl : Lf) (E : Env') (Q : PyData → Env' → Prop) : we (vL fl) E Q = we fl E fun xs E1 => Q (.list xs) E1 := by
  simp only [we_o, wo_0, wif_0, vL, wo0_map]
theorem we_gYes (E : Env') (Q : Bool → Env' → Prop) : we gYes E Q = Q true E := by simp [we, gYes]
theorem we_pNo (E : Env') (Q : Option Int → Env' → Prop) : we pNo E Q = Q none E := by simp [we, pNo]
theorem we_fSl (fa : Ef) (pl ph : Ev (Option Int)) (E : Env') (Q : PyData → Env' → Prop) : we (fSl fa pl ph) E Q = we fa E fun x E1 => we pl E1 fun l E2 => we ph E2 fun h E3 => wo (oSl x l h) fun z => Q z E3 := by
  simp only [we_o, wo_0, wif_0, fSl, wo0_bind, wo0_map]
theorem we_fSls (i : Nat) (pl ph : Ev (Option Int)) (E : Env') (Q : PyData → Env' → Prop) : we (fSls i pl ph) E Q = wo (getO i E) fun _ => we pl E fun l E2 => we ph E2 fun h E3 => wo (getO i E3) fun xs => wo (oSl (.list xs) l h) fun z => Q z E3 := by
  simp only [we_o, wo_0, wif_0, fSls, wo0_bind, wo0_map, ownL_getO]
theorem we_fChain (g g' : PyData → PyData → Option PyData) (fa fb fc : Ef) (E : Env') (Q : PyData → Env' → Prop) : we (fChain g g' fa fb fc) E Q = we fa E fun x E1 => we fb E1 fun y E2 => wo (g x y) fun z => wo (asB z) fun k => wif k (we fc E2 fun t E3 => wo (g' y t) fun z => Q z E3) (Q (.bool false) E2) := by
  simp only [we_o, wo_0, wif_0, fChain, wo0_bind, wo0_ifb, wo0_map, wo0_some]
theorem we_fAnd (ga gb : Ev Bool) (E : Env') (Q : Bool → Env' → Prop) : we (fAnd ga gb) E Q = we ga E fun b E1 => wif b (we gb E1 Q) (Q false E1) := by
  simp only [we_o, wo_0, wif_0, fAnd, wo0_bind, wo0_ifb, wo0_some]
theorem we_fOr (ga gb : Ev Bool) (E : Env') (Q : Bool → Env' → Prop) : we (fOr ga gb) E Q = we ga E fun b E1 => wif b (Q true E1) (we gb E1 Q) := by
  simp only [we_o, wo_0, wif_0, fOr, wo0_bind, wo0_ifb, wo0_some]
theorem we_fAndV (fa fb : Ef) (E : Env') (Q : PyData → Env' → Prop) : we (fAndV fa fb) E Q = we fa E fun d E1 => wo (truD d) fun k => wif k (we fb E1 Q) (Q d E1) := by
  simp only [we_o, wo_0, wif_0, fAndV, wo0_bind, wo0_ifb, wo0_some]
theorem we_fOrV (fa fb : Ef) (E : Env') (Q : PyData → Env' → Prop) : we (fOrV fa fb) E Q = we fa E fun d E1 => wo (truD d) fun k => wif k (Q d E1) (we fb E1 Q) := by
  simp only [we_o, wo_0, wif_0, fOrV, wo0_bind, wo0_ifb, wo0_some]
theorem we_fIf (gc : Ev Bool) (fa fb : Ef) (E : Env') (Q : PyData → Env' → Prop) : we (fIf gc fa fb) E Q = we gc E fun b E1 => wif b (we fa E1 Q) (we fb E1 Q) := by
  simp only [we_o, wo_0, wif_0, fIf, wo0_bind, wo0_ifb]
theorem we_fIfC (gc ga gb : Ev Bool) (E : Env') (Q : Bool → Env' → Prop) : we (fIfC gc ga gb) E Q = we gc E fun b E1 => wif b (we ga E1 Q) (we gb E1 Q) := by
  simp only [we_o, wo_0, wif_0, fIfC, wo0_bind, wo0_ifb]
/-! calls -/
def wp (E : Env') (is : List Nat) (Q : Env' → Prop) (os : Env') (_t : Tg Q := ⟨⟩) : Prop := wo (putB E is os) Q
theorem wp_nil (E : Env') (Q : Env' → Prop) : wp E [] Q [] = Q E := by simp [wp, putB, wo]
theorem wp_cons (E : Env') (i : Nat) (is : List Nat) (Q : Env' → Prop) (m : M) (os : Env') : wp E (i :: is) Q (B.o m :: os) = wp (E.set i (B.o m)) is Q os := by simp [wp, putB]
theorem k_outs_nil (E : Env') : outs [] E = [] := rfl
theorem k_outs_cons (i : Nat) (io : List Nat) (E : Env') : outs (i :: io) E = (E[i]?).getD B.u :: outs io E := rfl
theorem slots_nil (k : Nat) : slotsG [] k = [] := rfl
theorem slots_v (d : PyData) (gs : List G) (k : Nat) : slotsG (.v d :: gs) k = slotsG gs (k + 1) := rfl
theorem slots_s (i : Nat) (gs : List G) (k : Nat) : slotsG (.s i :: gs) k = (k, i) :: slotsG gs (k + 1) := rfl
theorem kB_nil (E : Env') : argB E [] = some [] := rfl
theorem kB_v (E : Env') (d : PyData) (gs : List G) : argB E (.v d :: gs) = (argB E gs).map fun bs => B.v d :: bs := rfl
theorem kB_s (E : Env') (i : Nat) (gs : List G) : argB E (.s i :: gs) = (getO i E).bind fun xs => (argB E gs).map fun bs => B.o (.lst xs) :: bs := by
  rcases h : E[i]? with _ | (_ | d | ⟨⟨xs⟩⟩) <;> simp [argB, getO, h]
theorem we_fCall (io : List Nat) (fn : Fn) (args : Af) (E : Env') (Q : PyData → Env' → Prop) : we (fCall io fn args) E Q = we args E fun gs E1 => wif (decide ((slotsG gs 0).map (·.1) = io ∧ ((slotsG gs 0).map (·.2)).Nodup)) (wo (argB E1 gs) fun bs => wc fn bs fun d os => wp E1 ((slotsG gs 0).map (·.2)) (fun E' => Q d E') os) False := by
  simp only [we_o, wo_0, wif_0, fCall, wo0_bind, wo0_ite, wo0_none, wo0_map]
  rfl
theorem we_fCallL (fn : FnL) (args : Af) (E : Env') (Q : List PyData → Env' → Prop) : we (fCallL fn args) E Q = we args E fun gs E1 => wo (onlyV gs) fun ds => wc fn (ds.map B.v) fun d _ => Q d E1 := by
  simp only [we_o, wo_0, wif_0, fCallL, wo0_bind, wo0_map]
  rfl
theorem wc_eq {fn : Env' → Option (α × Env')} {A : Env'} {d : α} {os : Env'} (h : fn A = some (d, os)) (Q : α → Env' → Prop) : wc fn A Q = Q d os := by simp [wc, h]
theorem wc_of {fn : Env' → Option (α × Env')} {A : Env'} {Q Q' : α → Env' → Prop} (h : wc fn A Q') (k : ∀ d os, Q' d os → Q d os) : wc fn A Q := by
  obtain ⟨r, h1, h2⟩ := h
  exact ⟨r, h1, k _ _ h2⟩
theorem of_wc {fn : Env' → Option (α × Env')} {A : Env'} {d : α} {os : Env'} (h : wc fn A fun d' os' => d' = d ∧ os' = os) : fn A = some (d, os) := by
  obtain ⟨r, h1, h2, h3⟩ := h
  rw [h1, ← h2, ← h3]
theorem wc_body (io : List Nat) (pad : Nat) (f : Sf) (A : Env') (Q : PyData → Env' → Prop) : wc (bodyFn io pad f) A Q = ws f (A ++ List.replicate pad B.u) (wr io Q) := by
  unfold wc bodyFn ws
  cases h : f (A ++ List.replicate pad B.u) with
  | none => simp
  | some o => cases o <;> simp [wr]
theorem wc_bodyL (io : List Nat) (pad : Nat) (f : Lf) (A : Env') (Q : List PyData → Env' → Prop) : wc (bodyFnL io pad f) A Q = we f (A ++ List.replicate pad B.u) fun xs E => Q xs (outs io E) := by
  unfold wc bodyFnL we
  cases h : f (A ++ List.replicate pad B.u) with
  | none => simp
  | some o => simp
def aK (gs : List G) : Af := fun E => some (gs, E)
theorem we_aK (gs : List G) (E : Env') (Q : List G → Env' → Prop) : we (aK gs) E Q = Q gs E := by simp [we, aK]
theorem we_fCallT (io io' : List Nat) (fn : Fn) (fr : Af) (fl : Lf) (E : Env') (Q : PyData → Env' → Prop) : we (fCallT io io' fn fr fl) E Q = we fr E fun gs E1 => we fl E1 fun xs E2 => wif (decide (E2.length ∈ io ∨ slotLt E2.length gs = false)) False (we (fCall io' fn (aK (gs ++ [.s E2.length]))) (E2 ++ [B.o (.lst xs)]) fun d E3 => Q d (E3.take E2.length)) := by
  simp only [we_o, wo_0, wif_0, fCallT, wo0_bind, wo0_ite, wo0_none, wo0_map]
  rfl
theorem slotLt_nil (N : Nat) : slotLt N [] = true := rfl
theorem slotLt_v (N : Nat) (d : PyData) (gs : List G) : slotLt N (.v d :: gs) = slotLt N gs := rfl
theorem slotLt_s (N i : Nat) (gs : List G) : slotLt N (.s i :: gs) = (decide (i < N) && slotLt N gs) := rfl
/-! statements -/
theorem ws_seq (f g : Sf) (E : Env') (Q : O → Prop) : ws (sSeq f g) E Q = ws f E (wk g Q) := by
  unfold ws sSeq
  cases h : f E with
  | none => simp
  | some o => cases o <;> simp [wk, ws]
theorem we_qSeq (f : Sf) (g : Lf) (E : Env') (Q : List PyData → Env' → Prop) : we (qSeq f g) E Q = ws f E fun o => match o with | .nx E1 => we g E1 Q | _ => False := by
  unfold we ws qSeq
  cases h : f E with
  | none => simp
  | some o => cases o <;> simp
theorem ws_nil (E : Env') (Q : O → Prop) : ws sNil E Q = Q (.nx E) := by simp [ws, sNil]
theorem ws_bk (E : Env') (Q : O → Prop) : ws sBk E Q = Q (.bk E) := by simp [ws, sBk]
theorem ws_ct (E : Env') (Q : O → Prop) : ws sCt E Q = Q (.ct E) := by simp [ws, sCt]
theorem ws_ret (fa : Ef) (E : Env') (Q : O → Prop) : ws (sRet fa) E Q = we fa E fun d E1 => Q (.rt d E1) := by
  simp only [we_o, wo_0, wif_0, ws_o, sRet, wo0_map]
theorem ws_retN (E : Env') (Q : O → Prop) : ws sRetN E Q = Q (.rt .none E) := by simp [ws, sRetN]
theorem ws_retO (i : Nat) (E : Env') (Q : O → Prop) : ws (sRetO i) E Q = wo (getO i E) fun xs => Q (.rt (.list xs) E) := by
  rcases h : E[i]? with _ | (_ | d | ⟨⟨xs⟩⟩) <;> simp [ws, sRetO, getO, h, wo]
theorem ws_if (gc : Ev Bool) (f g : Sf) (E : Env') (Q : O → Prop) : ws (sIf gc f g) E Q = we gc E fun b E1 => wif b (ws f E1 Q) (ws g E1 Q) := by
  simp only [we_o, wo_0, wif_0, ws_o, sIf, wo0_bind, wo0_ifb]
theorem ws_expr (fa : Ef) (E : Env') (Q : O → Prop) : ws (sExpr fa) E Q = we fa E fun _ E1 => Q (.nx E1) := by
  simp only [we_o, wo_0, wif_0, ws_o, sExpr, wo0_map]
theorem ws_asg (fa : Ef) (τ : Tf) (E : Env') (Q : O → Prop) : ws (sAsg fa τ) E Q = we fa E fun d E1 => wo (τ d) fun as => Q (.nx (setE E1 as)) := by
  simp only [we_o, wo_0, wif_0, ws_o, sAsg, wo0_bind, wo0_map]
theorem ws_asgN (fa : Ef) (i : Nat) (E : Env') (Q : O → Prop) : ws (sAsg fa (τN i)) E Q = we fa E fun d E1 => Q (.nx (E1.set i (B.v d))) := by
  simp only [we_o, wo_0, ws_asg, τN, wo0_some, setE]
theorem ws_par2 (i j : Nat) (fr : Af) (E : Env') (Q : O → Prop) : ws (sPar2 i j fr) E Q = we fr E fun gs E1 => wo (onlyV gs) fun ds => match ds with | [x, y] => Q (.nx ((E1.set i (B.v x)).set j (B.v y))) | _ => False := by
  simp only [we_o, wo_0, wif_0, ws_o, sPar2, wo0_bind]
  congr 1
  funext r
  congr 1
  funext ds
  split
  · simp only [wo0_some, setE]
  · rename_i h
    first
      | (split
         · rename_i x y; exact absurd rfl (h x y)
         · simp only [wo0_none])
      | simp only [wo0_none]
theorem ws_par3 (i j l : Nat) (fr : Af) (E : Env') (Q : O → Prop) : ws (sPar3 i j l fr) E Q = we fr E fun gs E1 => wo (onlyV gs) fun ds => match ds with | [x, y, z] => Q (.nx (((E1.set i (B.v x)).set j (B.v y)).set l (B.v z))) | _ => False := by
  simp only [we_o, wo_0, wif_0, ws_o, sPar3, wo0_bind]
  congr 1
  funext r
  congr 1
  funext ds
  split
  · simp only [wo0_some, setE]
  · rename_i h
    first
      | (split
         · rename_i x y z; exact absurd rfl (h x y z)
         · simp only [wo0_none])
      | simp only [wo0_none]
theorem ws_app (i : Nat) (fa : Ef) (E : Env') (Q : O → Prop) : ws (sApp i fa) E Q = wo (getO i E) fun _ => we fa E fun d E1 => wo (getO i E1) fun xs => wif (decide (xs.length < 16777216)) (Q (.nx (E1.set i (B.o (.lst (xs ++ [d])))))) False := by
  simp only [we_o, wo_0, wif_0, ws_o, sApp, wo0_bind, wo0_ite, wo0_some, wo0_none]
  rfl
theorem ws_setI (i : Nat) (fi fa : Ef) (E : Env') (Q : O → Prop) : ws (sSetI i fi fa) E Q = we fa E fun d E1 => wo (getO i E1) fun _ => we fi E1 fun k E2 => wo (getO i E2) fun xs => wo (match k with | .int k => ixN xs.length k | _ => none) fun j => Q (.nx (E2.set i (B.o (.lst (xs.set j d))))) := by
  simp only [we_o, wo_0, wif_0, ws_o, sSetI, wo0_bind]
  congr 1
  funext r
  congr 1
  funext xs
  congr 1
  funext s
  congr 1
  funext ys
  rcases s with ⟨s1, s2⟩
  cases s1 <;> simp only [wo0_map, wo0_none]
theorem ws_own (i : Nat) (f : Lf) (E : Env') (Q : O → Prop) : ws (sOwn i f) E Q = we f E fun xs E1 => wif (decide (i < E1.length)) (Q (.nx (E1.set i (B.o (.lst xs))))) False := by
  simp only [we_o, wo_0, wif_0, ws_o, sOwn, wo0_bind, wo0_ite, wo0_some, wo0_none]
/-- a for walk, by what holds when so many things are left -/
theorem ws_for {fl : Lf} {τ : Tf} {body : Sf} {E : Env'} {Q : O → Prop} (I : Nat → Env' → Prop)
    (h : we fl E fun ds E1 => I ds.length E1 ∧ (∀ d ∈ ds, ∀ n E, I (n + 1) E → ∃ as, τ d = some as ∧ ws body (setE E as) fun o => match o with | .nx E' => I n E' | .ct E' => I n E' | .bk E' => Q (.nx E') | .rt v E' => Q (.rt v E')) ∧ ∀ E, I 0 E → Q (.nx E)) :
    ws (sFor fl τ body) E Q := by
  obtain ⟨⟨ds, E1⟩, hl, h0, hs, hq⟩ := h
  have key : ∀ (ds : List PyData) (E1 : Env'), I ds.length E1 → (∀ d ∈ ds, ∀ n E, I (n + 1) E → ∃ as, τ d = some as ∧ ws body (setE E as) fun o => match o with | .nx E' => I n E' | .ct E' => I n E' | .bk E' => Q (.nx E') | .rt v E' => Q (.rt v E')) → ∃ o, forL τ body ds E1 = some o ∧ Q o := by
    intro ds
    induction ds with
    | nil => exact fun E1 h _ => ⟨_, rfl, hq _ h⟩
    | cons d ds ih =>
      intro E1 h hs
      obtain ⟨as, h1, o, h2, h3⟩ := hs d List.mem_cons_self _ E1 h
      unfold forL
      rw [h1]
      show ∃ o, (body (setE E1 as)).bind _ = some o ∧ Q o
      rw [h2]
      cases o with
      | nx E' => exact ih E' h3 fun d hd => hs d (List.mem_cons_of_mem _ hd)
      | ct E' => exact ih E' h3 fun d hd => hs d (List.mem_cons_of_mem _ hd)
      | bk E' => exact ⟨_, rfl, h3⟩
      | rt v E' => exact ⟨_, rfl, h3⟩
  obtain ⟨o, h1, h2⟩ := key ds E1 h0 hs
  exact ⟨o, by unfold sFor; rw [hl]; exact h1, h2⟩
/-- a for walk, by the things themselves: done, left -/
theorem ws_forD {fl : Lf} {τ : Tf} {body : Sf} {E : Env'} {Q : O → Prop} (I : List PyData → List PyData → Env' → Prop)
    (h : we fl E fun ds E1 => I [] ds E1 ∧ (∀ l d r E, ds = l ++ d :: r → I l (d :: r) E → ∃ as, τ d = some as ∧ ws body (setE E as) fun o => match o with | .nx E' => I (l ++ [d]) r E' | .ct E' => I (l ++ [d]) r E' | .bk E' => Q (.nx E') | .rt v E' => Q (.rt v E')) ∧ ∀ E, I ds [] E → Q (.nx E)) :
    ws (sFor fl τ body) E Q := by
  obtain ⟨⟨ds, E1⟩, hl, h0, hs, hq⟩ := h
  have key : ∀ (r l : List PyData) (E1 : Env'), ds = l ++ r → I l r E1 → ∃ o, forL τ body r E1 = some o ∧ Q o := by
    intro r
    induction r with
    | nil => exact fun l E1 e h => ⟨_, rfl, hq _ (by rw [show ds = l by rw [e, List.append_nil]]; exact h)⟩
    | cons d r ih =>
      intro l E1 e h
      obtain ⟨as, h1, o, h2, h3⟩ := hs l d r E1 e h
      unfold forL
      rw [h1]
      show ∃ o, (body (setE E1 as)).bind _ = some o ∧ Q o
      rw [h2]
      cases o with
      | nx E' => exact ih (l ++ [d]) E' (by rw [e]; simp) h3
      | ct E' => exact ih (l ++ [d]) E' (by rw [e]; simp) h3
      | bk E' => exact ⟨_, rfl, h3⟩
      | rt v E' => exact ⟨_, rfl, h3⟩
  obtain ⟨o, h1, h2⟩ := key ds [] E1 rfl h0
  exact ⟨o, by unfold sFor; rw [hl]; exact h1, h2⟩
/-- a comprehension whose items are told by a function -/
theorem we_lcP {vs : List Nat} {fl : Lf} {τ : Tf} {fe : Ef} {E : Env'} {Q : List PyData → Env' → Prop} (g : PyData → PyData)
    (h : we fl E fun ds E1 => vs.any (fun i => isOwn E1[i]?) = false ∧ (∀ d ∈ ds, wo (τ d) fun as => we fe (setE (wipeE E1 vs) as) fun x E2 => x = g d ∧ wipeE E2 vs = wipeE E1 vs) ∧ Q (ds.map g) (backE E1 (wipeE E1 vs) vs)) : we (fLc vs fl τ gYes fe) E Q := by
  obtain ⟨⟨ds, E1⟩, hl, ho, hs, hq⟩ := h
  refine ⟨_, fLc_pure (ds := ds) (E1 := E1) g hl ho rfl rfl fun d hd => ?_, hq⟩
  obtain ⟨as, h1, ⟨x, E2⟩, h2, h3, h4⟩ := hs d hd
  exact ⟨as, E2, h1, by rw [h2]; exact congrArg some (Prod.ext h3 rfl), h4⟩
theorem we_lcF {vs : List Nat} {fl : Lf} {τ : Tf} {gt : Ev Bool} {fe : Ef} {E : Env'} {Q : List PyData → Env' → Prop} (p : PyData → Bool) (g : PyData → PyData)
    (h : we fl E fun ds E1 => vs.any (fun i => isOwn E1[i]?) = false ∧ (∀ d ∈ ds, wo (τ d) fun as => we gt (setE (wipeE E1 vs) as) fun b E2 => b = p d ∧ wipeE E2 vs = wipeE E1 vs ∧ (p d = true → we fe E2 fun x E3 => x = g d ∧ wipeE E3 vs = wipeE E1 vs)) ∧ Q ((ds.filter p).map g) (backE E1 (wipeE E1 vs) vs)) : we (fLc vs fl τ gt fe) E Q := by
  obtain ⟨⟨ds, E1⟩, hl, ho, hs, hq⟩ := h
  refine ⟨_, fLc_filt (ds := ds) (E1 := E1) p g hl ho rfl rfl fun d hd => ?_, hq⟩
  obtain ⟨as, h1, ⟨b, E2⟩, h2, h3, h4, h5⟩ := hs d hd
  refine ⟨as, E2, h1, by rw [h2]; exact congrArg some (Prod.ext h3 rfl), h4, fun hp => ?_⟩
  obtain ⟨⟨x, E3⟩, h6, h7, h8⟩ := h5 hp
  exact ⟨E3, by rw [h6]; exact congrArg some (Prod.ext h7 rfl), h8⟩
/-- a comprehension that may draw: an invariant, and what is told of each item -/
theorem we_lcI {vs : List Nat} {fl : Lf} {τ : Tf} {fe : Ef} {E : Env'} {Q : List PyData → Env' → Prop} (I : Nat → Env' → Prop) (R : PyData → Prop)
    (h : we fl E fun ds E1 => vs.any (fun i => isOwn E1[i]?) = false ∧ I ds.length (wipeE E1 vs) ∧ (∀ d ∈ ds, ∀ n E2, I (n + 1) E2 → wo (τ d) fun as => we fe (setE E2 as) fun x E3 => R x ∧ I n (wipeE E3 vs)) ∧ ∀ xs E2, xs.length = ds.length → (∀ x ∈ xs, R x) → I 0 E2 → Q xs (backE E1 E2 vs)) : we (fLc vs fl τ gYes fe) E Q := by
  obtain ⟨⟨ds, E1⟩, hl, ho, h0, hs, hq⟩ := h
  have key : ∀ (ds : List PyData) (E2 : Env'), I ds.length E2 → (∀ d ∈ ds, ∀ n E2, I (n + 1) E2 → wo (τ d) fun as => we fe (setE E2 as) fun x E3 => R x ∧ I n (wipeE E3 vs)) → ∃ xs E3, lcL vs τ gYes fe ds E2 = some (xs, E3) ∧ xs.length = ds.length ∧ (∀ x ∈ xs, R x) ∧ I 0 E3 := by
    intro ds
    induction ds with
    | nil => exact fun E2 h _ => ⟨[], E2, rfl, rfl, fun _ h => (List.not_mem_nil h).elim, h⟩
    | cons d ds ih =>
      intro E2 h hs
      obtain ⟨as, h1, ⟨x, E3⟩, h2, h3, h4⟩ := hs d List.mem_cons_self _ E2 h
      obtain ⟨xs, E4, h5, h6, h7, h8⟩ := ih _ h4 fun d hd => hs d (List.mem_cons_of_mem _ hd)
      refine ⟨x :: xs, E4, ?_, by rw [List.length_cons, List.length_cons, h6], fun y hy => ?_, h8⟩
      · unfold lcL
        rw [h1]
        show ((fe (setE E2 as)).bind fun s => (lcL vs τ gYes fe ds (wipeE s.2 vs)).map fun t => (s.1 :: t.1, t.2)) = _
        rw [h2]
        show ((lcL vs τ gYes fe ds (wipeE E3 vs)).map fun t => (x :: t.1, t.2)) = _
        rw [h5]
        rfl
      · rcases List.mem_cons.mp hy with e | hy
        · subst e; exact h3
        · exact h7 y hy
  obtain ⟨xs, E3, h1, h2, h3, h4⟩ := key ds _ h0 hs
  refine ⟨(xs, backE E1 E3 vs), ?_, hq xs E3 h2 h3 h4⟩
  unfold fLc
  rw [hl]
  show (if (vs.any fun i => isOwn E1[i]?) = true then none else (lcL vs τ gYes fe ds (wipeE E1 vs)).map fun t => (t.1, backE E1 t.2 vs)) = _
  rw [ho, if_neg Bool.false_ne_true, h1]
  rfl
def unM : M → List PyData
  | .lst xs => xs
theorem unM_lst (xs : List PyData) : unM (.lst xs) = xs := rfl
theorem lst_unM (m : M) : M.lst (unM m) = m := by cases m; rfl
/-! a slot -/
theorem we_V (i : Nat) (E : Env') (Q : PyData → Env' → Prop) : we (fV i) E Q = wo (match E[i]? with | some (B.v d) => some d | _ => none) fun d => Q d E := by
  rcases h : E[i]? with _ | (_ | d | ⟨⟨xs⟩⟩) <;> simp [we, fV, h, wo]
theorem we_V0 (d : PyData) (E : Env') (Q : PyData → Env' → Prop) : we (fV 0) (B.v d :: E) Q = Q d (B.v d :: E) := by rw [we_V]; exact wo_some _ _
theorem getO_0 (m : M) (E : Env') : getO 0 (B.o m :: E) = some (unM m) := by cases m; rfl
theorem set_0 {α : Type} (b x : α) (E : List α) : (b :: E).set 0 x = x :: E := rfl
theorem at_0 {α : Type} (b : α) (E : List α) : (b :: E)[0]? = some b := rfl
theorem we_V1 (b0 : B) (d : PyData) (E : Env') (Q : PyData → Env' → Prop) : we (fV 1) (b0 :: B.v d :: E) Q = Q d (b0 :: B.v d :: E) := by rw [we_V]; exact wo_some _ _
theorem getO_1 (b0 : B) (m : M) (E : Env') : getO 1 (b0 :: B.o m :: E) = some (unM m) := by cases m; rfl
theorem set_1 {α : Type} (b0 : α) (b x : α) (E : List α) : (b0 :: b :: E).set 1 x = b0 :: x :: E := rfl
theorem at_1 {α : Type} (b0 : α) (b : α) (E : List α) : (b0 :: b :: E)[1]? = some b := rfl
theorem we_V2 (b0 b1 : B) (d : PyData) (E : Env') (Q : PyData → Env' → Prop) : we (fV 2) (b0 :: b1 :: B.v d :: E) Q = Q d (b0 :: b1 :: B.v d :: E) := by rw [we_V]; exact wo_some _ _
theorem getO_2 (b0 b1 : B) (m : M) (E : Env') : getO 2 (b0 :: b1 :: B.o m :: E) = some (unM m) := by cases m; rfl
theorem set_2 {α : Type} (b0 b1 : α) (b x : α) (E : List α) : (b0 :: b1 :: b :: E).set 2 x = b0 :: b1 :: x :: E := rfl
theorem at_2 {α : Type} (b0 b1 : α) (b : α) (E : List α) : (b0 :: b1 :: b :: E)[2]? = some b := rfl
theorem we_V3 (b0 b1 b2 : B) (d : PyData) (E : Env') (Q : PyData → Env' → Prop) : we (fV 3) (b0 :: b1 :: b2 :: B.v d :: E) Q = Q d (b0 :: b1 :: b2 :: B.v d :: E) := by rw [we_V]; exact wo_some _ _
theorem getO_3 (b0 b1 b2 : B) (m : M) (E : Env') : getO 3 (b0 :: b1 :: b2 :: B.o m :: E) = some (unM m) := by cases m; rfl
theorem set_3 {α : Type} (b0 b1 b2 : α) (b x : α) (E : List α) : (b0 :: b1 :: b2 :: b :: E).set 3 x = b0 :: b1 :: b2 :: x :: E := rfl
theorem at_3 {α : Type} (b0 b1 b2 : α) (b : α) (E : List α) : (b0 :: b1 :: b2 :: b :: E)[3]? = some b := rfl
theorem we_V4 (b0 b1 b2 b3 : B) (d : PyData) (E : Env') (Q : PyData → Env' → Prop) : we (fV 4) (b0 :: b1 :: b2 :: b3 :: B.v d :: E) Q = Q d (b0 :: b1 :: b2 :: b3 :: B.v d :: E) := by rw [we_V]; exact wo_some _ _
theorem getO_4 (b0 b1 b2 b3 : B) (m : M) (E : Env') : getO 4 (b0 :: b1 :: b2 :: b3 :: B.o m :: E) = some (unM m) := by cases m; rfl
theorem set_4 {α : Type} (b0 b1 b2 b3 : α) (b x : α) (E : List α) : (b0 :: b1 :: b2 :: b3 :: b :: E).set 4 x = b0 :: b1 :: b2 :: b3 :: x :: E := rfl
theorem at_4 {α : Type} (b0 b1 b2 b3 : α) (b : α) (E : List α) : (b0 :: b1 :: b2 :: b3 :: b :: E)[4]? = some b := rfl
theorem we_V5 (b0 b1 b2 b3 b4 : B) (d : PyData) (E : Env') (Q : PyData → Env' → Prop) : we (fV 5) (b0 :: b1 :: b2 :: b3 :: b4 :: B.v d :: E) Q = Q d (b0 :: b1 :: b2 :: b3 :: b4 :: B.v d :: E) := by rw [we_V]; exact wo_some _ _
theorem getO_5 (b0 b1 b2 b3 b4 : B) (m : M) (E : Env') : getO 5 (b0 :: b1 :: b2 :: b3 :: b4 :: B.o m :: E) = some (unM m) := by cases m; rfl
theorem set_5 {α : Type} (b0 b1 b2 b3 b4 : α) (b x : α) (E : List α) : (b0 :: b1 :: b2 :: b3 :: b4 :: b :: E).set 5 x = b0 :: b1 :: b2 :: b3 :: b4 :: x :: E := rfl
theorem at_5 {α : Type} (b0 b1 b2 b3 b4 : α) (b : α) (E : List α) : (b0 :: b1 :: b2 :: b3 :: b4 :: b :: E)[5]? = some b := rfl
theorem we_V6 (b0 b1 b2 b3 b4 b5 : B) (d : PyData) (E : Env') (Q : PyData → Env' → Prop) : we (fV 6) (b0 :: b1 :: b2 :: b3 :: b4 :: b5 :: B.v d :: E) Q = Q d (b0 :: b1 :: b2 :: b3 :: b4 :: b5 :: B.v d :: E) := by rw [we_V]; exact wo_some _ _
theorem getO_6 (b0 b1 b2 b3 b4 b5 : B) (m : M) (E : Env') : getO 6 (b0 :: b1 :: b2 :: b3 :: b4 :: b5 :: B.o m :: E) = some (unM m) := by cases m; rfl
theorem set_6 {α : Type} (b0 b1 b2 b3 b4 b5 : α) (b x : α) (E : List α) : (b0 :: b1 :: b2 :: b3 :: b4 :: b5 :: b :: E).set 6 x = b0 :: b1 :: b2 :: b3 :: b4 :: b5 :: x :: E := rfl
theorem at_6 {α : Type} (b0 b1 b2 b3 b4 b5 : α) (b : α) (E : List α) : (b0 :: b1 :: b2 :: b3 :: b4 :: b5 :: b :: E)[6]? = some b := rfl
theorem we_V7 (b0 b1 b2 b3 b4 b5 b6 : B) (d : PyData) (E : Env') (Q : PyData → Env' → Prop) : we (fV 7) (b0 :: b1 :: b2 :: b3 :: b4 :: b5 :: b6 :: B.v d :: E) Q = Q d (b0 :: b1 :: b2 :: b3 :: b4 :: b5 :: b6 :: B.v d :: E) := by rw [we_V]; exact wo_some _ _
theorem getO_7 (b0 b1 b2 b3 b4 b5 b6 : B) (m : M) (E : Env') : getO 7 (b0 :: b1 :: b2 :: b3 :: b4 :: b5 :: b6 :: B.o m :: E) = some (unM m) := by cases m; rfl
theorem set_7 {α : Type} (b0 b1 b2 b3 b4 b5 b6 : α) (b x : α) (E : List α) : (b0 :: b1 :: b2 :: b3 :: b4 :: b5 :: b6 :: b :: E).set 7 x = b0 :: b1 :: b2 :: b3 :: b4 :: b5 :: b6 :: x :: E := rfl
theorem at_7 {α : Type} (b0 b1 b2 b3 b4 b5 b6 : α) (b : α) (E : List α) : (b0 :: b1 :: b2 :: b3 :: b4 :: b5 :: b6 :: b :: E)[7]? = some b := rfl
theorem we_V8 (b0 b1 b2 b3 b4 b5 b6 b7 : B) (d : PyData) (E : Env') (Q : PyData → Env' → Prop) : we (fV 8) (b0 :: b1 :: b2 :: b3 :: b4 :: b5 :: b6 :: b7 :: B.v d :: E) Q = Q d (b0 :: b1 :: b2 :: b3 :: b4 :: b5 :: b6 :: b7 :: B.v d :: E) := by rw [we_V]; exact wo_some _ _
theorem getO_8 (b0 b1 b2 b3 b4 b5 b6 b7 : B) (m : M) (E : Env') : getO 8 (b0 :: b1 :: b2 :: b3 :: b4 :: b5 :: b6 :: b7 :: B.o m :: E) = some (unM m) := by cases m; rfl
theorem set_8 {α : Type} (b0 b1 b2 b3 b4 b5 b6 b7 : α) (b x : α) (E : List α) : (b0 :: b1 :: b2 :: b3 :: b4 :: b5 :: b6 :: b7 :: b :: E).set 8 x = b0 :: b1 :: b2 :: b3 :: b4 :: b5 :: b6 :: b7 :: x :: E := rfl
theorem at_8 {α : Type} (b0 b1 b2 b3 b4 b5 b6 b7 : α) (b : α) (E : List α) : (b0 :: b1 :: b2 :: b3 :: b4 :: b5 :: b6 :: b7 :: b :: E)[8]? = some b := rfl
theorem we_V9 (b0 b1 b2 b3 b4 b5 b6 b7 b8 : B) (d : PyData) (E : Env') (Q : PyData → Env' → Prop) : we (fV 9) (b0 :: b1 :: b2 :: b3 :: b4 :: b5 :: b6 :: b7 :: b8 :: B.v d :: E) Q = Q d (b0 :: b1 :: b2 :: b3 :: b4 :: b5 :: b6 :: b7 :: b8 :: B.v d :: E) := by rw [we_V]; exact wo_some _ _
theorem getO_9 (b0 b1 b2 b3 b4 b5 b6 b7 b8 : B) (m : M) (E : Env') : getO 9 (b0 :: b1 :: b2 :: b3 :: b4 :: b5 :: b6 :: b7 :: b8 :: B.o m :: E) = some (unM m) := by cases m; rfl
theorem set_9 {α : Type} (b0 b1 b2 b3 b4 b5 b6 b7 b8 : α) (b x : α) (E : List α) : (b0 :: b1 :: b2 :: b3 :: b4 :: b5 :: b6 :: b7 :: b8 :: b :: E).set 9 x = b0 :: b1 :: b2 :: b3 :: b4 :: b5 :: b6 :: b7 :: b8 :: x :: E := rfl
theorem at_9 {α : Type} (b0 b1 b2 b3 b4 b5 b6 b7 b8 : α) (b : α) (E : List α) : (b0 :: b1 :: b2 :: b3 :: b4 :: b5 :: b6 :: b7 :: b8 :: b :: E)[9]? = some b := rfl
theorem we_V10 (b0 b1 b2 b3 b4 b5 b6 b7 b8 b9 : B) (d : PyData) (E : Env') (Q : PyData → Env' → Prop) : we (fV 10) (b0 :: b1 :: b2 :: b3 :: b4 :: b5 :: b6 :: b7 :: b8 :: b9 :: B.v d :: E) Q = Q d (b0 :: b1 :: b2 :: b3 :: b4 :: b5 :: b6 :: b7 :: b8 :: b9 :: B.v d :: E) := by rw [we_V]; exact wo_some _ _
theorem getO_10 (b0 b1 b2 b3 b4 b5 b6 b7 b8 b9 : B) (m : M) (E : Env') : getO 10 (b0 :: b1 :: b2 :: b3 :: b4 :: b5 :: b6 :: b7 :: b8 :: b9 :: B.o m :: E) = some (unM m) := by cases m; rfl
theorem set_10 {α : Type} (b0 b1 b2 b3 b4 b5 b6 b7 b8 b9 : α) (b x : α) (E : List α) : (b0 :: b1 :: b2 :: b3 :: b4 :: b5 :: b6 :: b7 :: b8 :: b9 :: b :: E).set 10 x = b0 :: b1 :: b2 :: b3 :: b4 :: b5 :: b6 :: b7 :: b8 :: b9 :: x :: E := rfl
theorem at_10 {α : Type} (b0 b1 b2 b3 b4 b5 b6 b7 b8 b9 : α) (b : α) (E : List α) : (b0 :: b1 :: b2 :: b3 :: b4 :: b5 :: b6 :: b7 :: b8 :: b9 :: b :: E)[10]? = some b := rfl
theorem we_V11 (b0 b1 b2 b3 b4 b5 b6 b7 b8 b9 b10 : B) (d : PyData) (E : Env') (Q : PyData → Env' → Prop) : we (fV 11) (b0 :: b1 :: b2 :: b3 :: b4 :: b5 :: b6 :: b7 :: b8 :: b9 :: b10 :: B.v d :: E) Q = Q d (b0 :: b1 :: b2 :: b3 :: b4 :: b5 :: b6 :: b7 :: b8 :: b9 :: b10 :: B.v d :: E) := by rw [we_V]; exact wo_some _ _
theorem getO_11 (b0 b1 b2 b3 b4 b5 b6 b7 b8 b9 b10 : B) (m : M) (E : Env') : getO 11 (b0 :: b1 :: b2 :: b3 :: b4 :: b5 :: b6 :: b7 :: b8 :: b9 :: b10 :: B.o m :: E) = some (unM m) := by cases m; rfl
theorem set_11 {α : Type} (b0 b1 b2 b3 b4 b5 b6 b7 b8 b9 b10 : α) (b x : α) (E : List α) : (b0 :: b1 :: b2 :: b3 :: b4 :: b5 :: b6 :: b7 :: b8 :: b9 :: b10 :: b :: E).set 11 x = b0 :: b1 :: b2 :: b3 :: b4 :: b5 :: b6 :: b7 :: b8 :: b9 :: b10 :: x :: E := rfl
theorem at_11 {α : Type} (b0 b1 b2 b3 b4 b5 b6 b7 b8 b9 b10 : α) (b : α) (E : List α) : (b0 :: b1 :: b2 :: b3 :: b4 :: b5 :: b6 :: b7 :: b8 :: b9 :: b10 :: b :: E)[11]? = some b := rfl
theorem we_V12 (b0 b1 b2 b3 b4 b5 b6 b7 b8 b9 b10 b11 : B) (d : PyData) (E : Env') (Q : PyData → Env' → Prop) : we (fV 12) (b0 :: b1 :: b2 :: b3 :: b4 :: b5 :: b6 :: b7 :: b8 :: b9 :: b10 :: b11 :: B.v d :: E) Q = Q d (b0 :: b1 :: b2 :: b3 :: b4 :: b5 :: b6 :: b7 :: b8 :: b9 :: b10 :: b11 :: B.v d :: E) := by rw [we_V]; exact wo_some _ _
theorem getO_12 (b0 b1 b2 b3 b4 b5 b6 b7 b8 b9 b10 b11 : B) (m : M) (E : Env') : getO 12 (b0 :: b1 :: b2 :: b3 :: b4 :: b5 :: b6 :: b7 :: b8 :: b9 :: b10 :: b11 :: B.o m :: E) = some (unM m) := by cases m; rfl
theorem set_12 {α : Type} (b0 b1 b2 b3 b4 b5 b6 b7 b8 b9 b10 b11 : α) (b x : α) (E : List α) : (b0 :: b1 :: b2 :: b3 :: b4 :: b5 :: b6 :: b7 :: b8 :: b9 :: b10 :: b11 :: b :: E).set 12 x = b0 :: b1 :: b2 :: b3 :: b4 :: b5 :: b6 :: b7 :: b8 :: b9 :: b10 :: b11 :: x :: E := rfl
theorem at_12 {α : Type} (b0 b1 b2 b3 b4 b5 b6 b7 b8 b9 b10 b11 : α) (b : α) (E : List α) : (b0 :: b1 :: b2 :: b3 :: b4 :: b5 :: b6 :: b7 :: b8 :: b9 :: b10 :: b11 :: b :: E)[12]? = some b := rfl
theorem we_V13 (b0 b1 b2 b3 b4 b5 b6 b7 b8 b9 b10 b11 b12 : B) (d : PyData) (E : Env') (Q : PyData → Env' → Prop) : we (fV 13) (b0 :: b1 :: b2 :: b3 :: b4 :: b5 :: b6 :: b7 :: b8 :: b9 :: b10 :: b11 :: b12 :: B.v d :: E) Q = Q d (b0 :: b1 :: b2 :: b3 :: b4 :: b5 :: b6 :: b7 :: b8 :: b9 :: b10 :: b11 :: b12 :: B.v d :: E) := by rw [we_V]; exact wo_some _ _
theorem getO_13 (b0 b1 b2 b3 b4 b5 b6 b7 b8 b9 b10 b11 b12 : B) (m : M) (E : Env') : getO 13 (b0 :: b1 :: b2 :: b3 :: b4 :: b5 :: b6 :: b7 :: b8 :: b9 :: b10 :: b11 :: b12 :: B.o m :: E) = some (unM m) := by cases m; rfl
theorem set_13 {α : Type} (b0 b1 b2 b3 b4 b5 b6 b7 b8 b9 b10 b11 b12 : α) (b x : α) (E : List α) : (b0 :: b1 :: b2 :: b3 :: b4 :: b5 :: b6 :: b7 :: b8 :: b9 :: b10 :: b11 :: b12 :: b :: E).set 13 x = b0 :: b1 :: b2 :: b3 :: b4 :: b5 :: b6 :: b7 :: b8 :: b9 :: b10 :: b11 :: b12 :: x :: E := rfl
theorem at_13 {α : Type} (b0 b1 b2 b3 b4 b5 b6 b7 b8 b9 b10 b11 b12 : α) (b : α) (E : List α) : (b0 :: b1 :: b2 :: b3 :: b4 :: b5 :: b6 :: b7 :: b8 :: b9 :: b10 :: b11 :: b12 :: b :: E)[13]? = some b := rfl
theorem we_V14 (b0 b1 b2 b3 b4 b5 b6 b7 b8 b9 b10 b11 b12 b13 : B) (d : PyData) (E : Env') (Q : PyData → Env' → Prop) : we (fV 14) (b0 :: b1 :: b2 :: b3 :: b4 :: b5 :: b6 :: b7 :: b8 :: b9 :: b10 :: b11 :: b12 :: b13 :: B.v d :: E) Q = Q d (b0 :: b1 :: b2 :: b3 :: b4 :: b5 :: b6 :: b7 :: b8 :: b9 :: b10 :: b11 :: b12 :: b13 :: B.v d :: E) := by rw [we_V]; exact wo_some _ _
theorem getO_14 (b0 b1 b2 b3 b4 b5 b6 b7 b8 b9 b10 b11 b12 b13 : B) (m : M) (E : Env') : getO 14 (b0 :: b1 :: b2 :: b3 :: b4 :: b5 :: b6 :: b7 :: b8 :: b9 :: b10 :: b11 :: b12 :: b13 :: B.o m :: E) = some (unM m) := by cases m; rfl
theorem set_14 {α : Type} (b0 b1 b2 b3 b4 b5 b6 b7 b8 b9 b10 b11 b12 b13 : α) (b x : α) (E : List α) : (b0 :: b1 :: b2 :: b3 :: b4 :: b5 :: b6 :: b7 :: b8 :: b9 :: b10 :: b11 :: b12 :: b13 :: b :: E).set 14 x = b0 :: b1 :: b2 :: b3 :: b4 :: b5 :: b6 :: b7 :: b8 :: b9 :: b10 :: b11 :: b12 :: b13 :: x :: E := rfl
theorem at_14 {α : Type} (b0 b1 b2 b3 b4 b5 b6 b7 b8 b9 b10 b11 b12 b13 : α) (b : α) (E : List α) : (b0 :: b1 :: b2 :: b3 :: b4 :: b5 :: b6 :: b7 :: b8 :: b9 :: b10 :: b11 :: b12 :: b13 :: b :: E)[14]? = some b := rfl
theorem we_V15 (b0 b1 b2 b3 b4 b5 b6 b7 b8 b9 b10 b11 b12 b13 b14 : B) (d : PyData) (E : Env') (Q : PyData → Env' → Prop) : we (fV 15) (b0 :: b1 :: b2 :: b3 :: b4 :: b5 :: b6 :: b7 :: b8 :: b9 :: b10 :: b11 :: b12 :: b13 :: b14 :: B.v d :: E) Q = Q d (b0 :: b1 :: b2 :: b3 :: b4 :: b5 :: b6 :: b7 :: b8 :: b9 :: b10 :: b11 :: b12 :: b13 :: b14 :: B.v d :: E) := by rw [we_V]; exact wo_some _ _
theorem getO_15 (b0 b1 b2 b3 b4 b5 b6 b7 b8 b9 b10 b11 b12 b13 b14 : B) (m : M) (E : Env') : getO 15 (b0 :: b1 :: b2 :: b3 :: b4 :: b5 :: b6 :: b7 :: b8 :: b9 :: b10 :: b11 :: b12 :: b13 :: b14 :: B.o m :: E) = some (unM m) := by cases m; rfl
theorem set_15 {α : Type} (b0 b1 b2 b3 b4 b5 b6 b7 b8 b9 b10 b11 b12 b13 b14 : α) (b x : α) (E : List α) : (b0 :: b1 :: b2 :: b3 :: b4 :: b5 :: b6 :: b7 :: b8 :: b9 :: b10 :: b11 :: b12 :: b13 :: b14 :: b :: E).set 15 x = b0 :: b1 :: b2 :: b3 :: b4 :: b5 :: b6 :: b7 :: b8 :: b9 :: b10 :: b11 :: b12 :: b13 :: b14 :: x :: E := rfl
theorem at_15 {α : Type} (b0 b1 b2 b3 b4 b5 b6 b7 b8 b9 b10 b11 b12 b13 b14 : α) (b : α) (E : List α) : (b0 :: b1 :: b2 :: b3 :: b4 :: b5 :: b6 :: b7 :: b8 :: b9 :: b10 :: b11 :: b12 :: b13 :: b14 :: b :: E)[15]? = some b := rfl
theorem we_V16 (b0 b1 b2 b3 b4 b5 b6 b7 b8 b9 b10 b11 b12 b13 b14 b15 : B) (d : PyData) (E : Env') (Q : PyData → Env' → Prop) : we (fV 16) (b0 :: b1 :: b2 :: b3 :: b4 :: b5 :: b6 :: b7 :: b8 :: b9 :: b10 :: b11 :: b12 :: b13 :: b14 :: b15 :: B.v d :: E) Q = Q d (b0 :: b1 :: b2 :: b3 :: b4 :: b5 :: b6 :: b7 :: b8 :: b9 :: b10 :: b11 :: b12 :: b13 :: b14 :: b15 :: B.v d :: E) := by rw [we_V]; exact wo_some _ _
theorem getO_16 (b0 b1 b2 b3 b4 b5 b6 b7 b8 b9 b10 b11 b12 b13 b14 b15 : B) (m : M) (E : Env') : getO 16 (b0 :: b1 :: b2 :: b3 :: b4 :: b5 :: b6 :: b7 :: b8 :: b9 :: b10 :: b11 :: b12 :: b13 :: b14 :: b15 :: B.o m :: E) = some (unM m) := by cases m; rfl
theorem set_16 {α : Type} (b0 b1 b2 b3 b4 b5 b6 b7 b8 b9 b10 b11 b12 b13 b14 b15 : α) (b x : α) (E : List α) : (b0 :: b1 :: b2 :: b3 :: b4 :: b5 :: b6 :: b7 :: b8 :: b9 :: b10 :: b11 :: b12 :: b13 :: b14 :: b15 :: b :: E).set 16 x = b0 :: b1 :: b2 :: b3 :: b4 :: b5 :: b6 :: b7 :: b8 :: b9 :: b10 :: b11 :: b12 :: b13 :: b14 :: b15 :: x :: E := rfl
theorem at_16 {α : Type} (b0 b1 b2 b3 b4 b5 b6 b7 b8 b9 b10 b11 b12 b13 b14 b15 : α) (b : α) (E : List α) : (b0 :: b1 :: b2 :: b3 :: b4 :: b5 :: b6 :: b7 :: b8 :: b9 :: b10 :: b11 :: b12 :: b13 :: b14 :: b15 :: b :: E)[16]? = some b := rfl
theorem we_V17 (b0 b1 b2 b3 b4 b5 b6 b7 b8 b9 b10 b11 b12 b13 b14 b15 b16 : B) (d : PyData) (E : Env') (Q : PyData → Env' → Prop) : we (fV 17) (b0 :: b1 :: b2 :: b3 :: b4 :: b5 :: b6 :: b7 :: b8 :: b9 :: b10 :: b11 :: b12 :: b13 :: b14 :: b15 :: b16 :: B.v d :: E) Q = Q d (b0 :: b1 :: b2 :: b3 :: b4 :: b5 :: b6 :: b7 :: b8 :: b9 :: b10 :: b11 :: b12 :: b13 :: b14 :: b15 :: b16 :: B.v d :: E) := by rw [we_V]; exact wo_some _ _
theorem getO_17 (b0 b1 b2 b3 b4 b5 b6 b7 b8 b9 b10 b11 b12 b13 b14 b15 b16 : B) (m : M) (E : Env') : getO 17 (b0 :: b1 :: b2 :: b3 :: b4 :: b5 :: b6 :: b7 :: b8 :: b9 :: b10 :: b11 :: b12 :: b13 :: b14 :: b15 :: b16 :: B.o m :: E) = some (unM m) := by cases m; rfl
theorem set_17 {α : Type} (b0 b1 b2 b3 b4 b5 b6 b7 b8 b9 b10 b11 b12 b13 b14 b15 b16 : α) (b x : α) (E : List α) : (b0 :: b1 :: b2 :: b3 :: b4 :: b5 :: b6 :: b7 :: b8 :: b9 :: b10 :: b11 :: b12 :: b13 :: b14 :: b15 :: b16 :: b :: E).set 17 x = b0 :: b1 :: b2 :: b3 :: b4 :: b5 :: b6 :: b7 :: b8 :: b9 :: b10 :: b11 :: b12 :: b13 :: b14 :: b15 :: b16 :: x :: E := rfl
theorem at_17 {α : Type} (b0 b1 b2 b3 b4 b5 b6 b7 b8 b9 b10 b11 b12 b13 b14 b15 b16 : α) (b : α) (E : List α) : (b0 :: b1 :: b2 :: b3 :: b4 :: b5 :: b6 :: b7 :: b8 :: b9 :: b10 :: b11 :: b12 :: b13 :: b14 :: b15 :: b16 :: b :: E)[17]? = some b := rfl
theorem we_V18 (b0 b1 b2 b3 b4 b5 b6 b7 b8 b9 b10 b11 b12 b13 b14 b15 b16 b17 : B) (d : PyData) (E : Env') (Q : PyData → Env' → Prop) : we (fV 18) (b0 :: b1 :: b2 :: b3 :: b4 :: b5 :: b6 :: b7 :: b8 :: b9 :: b10 :: b11 :: b12 :: b13 :: b14 :: b15 :: b16 :: b17 :: B.v d :: E) Q = Q d (b0 :: b1 :: b2 :: b3 :: b4 :: b5 :: b6 :: b7 :: b8 :: b9 :: b10 :: b11 :: b12 :: b13 :: b14 :: b15 :: b16 :: b17 :: B.v d :: E) := by rw [we_V]; exact wo_some _ _
theorem getO_18 (b0 b1 b2 b3 b4 b5 b6 b7 b8 b9 b10 b11 b12 b13 b14 b15 b16 b17 : B) (m : M) (E : Env') : getO 18 (b0 :: b1 :: b2 :: b3 :: b4 :: b5 :: b6 :: b7 :: b8 :: b9 :: b10 :: b11 :: b12 :: b13 :: b14 :: b15 :: b16 :: b17 :: B.o m :: E) = some (unM m) := by cases m; rfl
theorem set_18 {α : Type} (b0 b1 b2 b3 b4 b5 b6 b7 b8 b9 b10 b11 b12 b13 b14 b15 b16 b17 : α) (b x : α) (E : List α) : (b0 :: b1 :: b2 :: b3 :: b4 :: b5 :: b6 :: b7 :: b8 :: b9 :: b10 :: b11 :: b12 :: b13 :: b14 :: b15 :: b16 :: b17 :: b :: E).set 18 x = b0 :: b1 :: b2 :: b3 :: b4 :: b5 :: b6 :: b7 :: b8 :: b9 :: b10 :: b11 :: b12 :: b13 :: b14 :: b15 :: b16 :: b17 :: x :: E := rfl
theorem at_18 {α : Type} (b0 b1 b2 b3 b4 b5 b6 b7 b8 b9 b10 b11 b12 b13 b14 b15 b16 b17 : α) (b : α) (E : List α) : (b0 :: b1 :: b2 :: b3 :: b4 :: b5 :: b6 :: b7 :: b8 :: b9 :: b10 :: b11 :: b12 :: b13 :: b14 :: b15 :: b16 :: b17 :: b :: E)[18]? = some b := rfl
theorem we_V19 (b0 b1 b2 b3 b4 b5 b6 b7 b8 b9 b10 b11 b12 b13 b14 b15 b16 b17 b18 : B) (d : PyData) (E : Env') (Q : PyData → Env' → Prop) : we (fV 19) (b0 :: b1 :: b2 :: b3 :: b4 :: b5 :: b6 :: b7 :: b8 :: b9 :: b10 :: b11 :: b12 :: b13 :: b14 :: b15 :: b16 :: b17 :: b18 :: B.v d :: E) Q = Q d (b0 :: b1 :: b2 :: b3 :: b4 :: b5 :: b6 :: b7 :: b8 :: b9 :: b10 :: b11 :: b12 :: b13 :: b14 :: b15 :: b16 :: b17 :: b18 :: B.v d :: E) := by rw [we_V]; exact wo_some _ _
theorem getO_19 (b0 b1 b2 b3 b4 b5 b6 b7 b8 b9 b10 b11 b12 b13 b14 b15 b16 b17 b18 : B) (m : M) (E : Env') : getO 19 (b0 :: b1 :: b2 :: b3 :: b4 :: b5 :: b6 :: b7 :: b8 :: b9 :: b10 :: b11 :: b12 :: b13 :: b14 :: b15 :: b16 :: b17 :: b18 :: B.o m :: E) = some (unM m) := by cases m; rfl
theorem set_19 {α : Type} (b0 b1 b2 b3 b4 b5 b6 b7 b8 b9 b10 b11 b12 b13 b14 b15 b16 b17 b18 : α) (b x : α) (E : List α) : (b0 :: b1 :: b2 :: b3 :: b4 :: b5 :: b6 :: b7 :: b8 :: b9 :: b10 :: b11 :: b12 :: b13 :: b14 :: b15 :: b16 :: b17 :: b18 :: b :: E).set 19 x = b0 :: b1 :: b2 :: b3 :: b4 :: b5 :: b6 :: b7 :: b8 :: b9 :: b10 :: b11 :: b12 :: b13 :: b14 :: b15 :: b16 :: b17 :: b18 :: x :: E := rfl
theorem at_19 {α : Type} (b0 b1 b2 b3 b4 b5 b6 b7 b8 b9 b10 b11 b12 b13 b14 b15 b16 b17 b18 : α) (b : α) (E : List α) : (b0 :: b1 :: b2 :: b3 :: b4 :: b5 :: b6 :: b7 :: b8 :: b9 :: b10 :: b11 :: b12 :: b13 :: b14 :: b15 :: b16 :: b17 :: b18 :: b :: E)[19]? = some b := rfl
theorem we_V20 (b0 b1 b2 b3 b4 b5 b6 b7 b8 b9 b10 b11 b12 b13 b14 b15 b16 b17 b18 b19 : B) (d : PyData) (E : Env') (Q : PyData → Env' → Prop) : we (fV 20) (b0 :: b1 :: b2 :: b3 :: b4 :: b5 :: b6 :: b7 :: b8 :: b9 :: b10 :: b11 :: b12 :: b13 :: b14 :: b15 :: b16 :: b17 :: b18 :: b19 :: B.v d :: E) Q = Q d (b0 :: b1 :: b2 :: b3 :: b4 :: b5 :: b6 :: b7 :: b8 :: b9 :: b10 :: b11 :: b12 :: b13 :: b14 :: b15 :: b16 :: b17 :: b18 :: b19 :: B.v d :: E) := by rw [we_V]; exact wo_some _ _
theorem getO_20 (b0 b1 b2 b3 b4 b5 b6 b7 b8 b9 b10 b11 b12 b13 b14 b15 b16 b17 b18 b19 : B) (m : M) (E : Env') : getO 20 (b0 :: b1 :: b2 :: b3 :: b4 :: b5 :: b6 :: b7 :: b8 :: b9 :: b10 :: b11 :: b12 :: b13 :: b14 :: b15 :: b16 :: b17 :: b18 :: b19 :: B.o m :: E) = some (unM m) := by cases m; rfl
theorem set_20 {α : Type} (b0 b1 b2 b3 b4 b5 b6 b7 b8 b9 b10 b11 b12 b13 b14 b15 b16 b17 b18 b19 : α) (b x : α) (E : List α) : (b0 :: b1 :: b2 :: b3 :: b4 :: b5 :: b6 :: b7 :: b8 :: b9 :: b10 :: b11 :: b12 :: b13 :: b14 :: b15 :: b16 :: b17 :: b18 :: b19 :: b :: E).set 20 x = b0 :: b1 :: b2 :: b3 :: b4 :: b5 :: b6 :: b7 :: b8 :: b9 :: b10 :: b11 :: b12 :: b13 :: b14 :: b15 :: b16 :: b17 :: b18 :: b19 :: x :: E := rfl
theorem at_20 {α : Type} (b0 b1 b2 b3 b4 b5 b6 b7 b8 b9 b10 b11 b12 b13 b14 b15 b16 b17 b18 b19 : α) (b : α) (E : List α) : (b0 :: b1 :: b2 :: b3 :: b4 :: b5 :: b6 :: b7 :: b8 :: b9 :: b10 :: b11 :: b12 :: b13 :: b14 :: b15 :: b16 :: b17 :: b18 :: b19 :: b :: E)[20]? = some b := rfl
theorem we_V21 (b0 b1 b2 b3 b4 b5 b6 b7 b8 b9 b10 b11 b12 b13 b14 b15 b16 b17 b18 b19 b20 : B) (d : PyData) (E : Env') (Q : PyData → Env' → Prop) : we (fV 21) (b0 :: b1 :: b2 :: b3 :: b4 :: b5 :: b6 :: b7 :: b8 :: b9 :: b10 :: b11 :: b12 :: b13 :: b14 :: b15 :: b16 :: b17 :: b18 :: b19 :: b20 :: B.v d :: E) Q = Q d (b0 :: b1 :: b2 :: b3 :: b4 :: b5 :: b6 :: b7 :: b8 :: b9 :: b10 :: b11 :: b12 :: b13 :: b14 :: b15 :: b16 :: b17 :: b18 :: b19 :: b20 :: B.v d :: E) := by rw [we_V]; exact wo_some _ _
theorem getO_21 (b0 b1 b2 b3 b4 b5 b6 b7 b8 b9 b10 b11 b12 b13 b14 b15 b16 b17 b18 b19 b20 : B) (m : M) (E : Env') : getO 21 (b0 :: b1 :: b2 :: b3 :: b4 :: b5 :: b6 :: b7 :: b8 :: b9 :: b10 :: b11 :: b12 :: b13 :: b14 :: b15 :: b16 :: b17 :: b18 :: b19 :: b20 :: B.o m :: E) = some (unM m) := by cases m; rfl
theorem set_21 {α : Type} (b0 b1 b2 b3 b4 b5 b6 b7 b8 b9 b10 b11 b12 b13 b14 b15 b16 b17 b18 b19 b20 : α) (b x : α) (E : List α) : (b0 :: b1 :: b2 :: b3 :: b4 :: b5 :: b6 :: b7 :: b8 :: b9 :: b10 :: b11 :: b12 :: b13 :: b14 :: b15 :: b16 :: b17 :: b18 :: b19 :: b20 :: b :: E).set 21 x = b0 :: b1 :: b2 :: b3 :: b4 :: b5 :: b6 :: b7 :: b8 :: b9 :: b10 :: b11 :: b12 :: b13 :: b14 :: b15 :: b16 :: b17 :: b18 :: b19 :: b20 :: x :: E := rfl
theorem at_21 {α : Type} (b0 b1 b2 b3 b4 b5 b6 b7 b8 b9 b10 b11 b12 b13 b14 b15 b16 b17 b18 b19 b20 : α) (b : α) (E : List α) : (b0 :: b1 :: b2 :: b3 :: b4 :: b5 :: b6 :: b7 :: b8 :: b9 :: b10 :: b11 :: b12 :: b13 :: b14 :: b15 :: b16 :: b17 :: b18 :: b19 :: b20 :: b :: E)[21]? = some b := rfl
theorem we_V22 (b0 b1 b2 b3 b4 b5 b6 b7 b8 b9 b10 b11 b12 b13 b14 b15 b16 b17 b18 b19 b20 b21 : B) (d : PyData) (E : Env') (Q : PyData → Env' → Prop) : we (fV 22) (b0 :: b1 :: b2 :: b3 :: b4 :: b5 :: b6 :: b7 :: b8 :: b9 :: b10 :: b11 :: b12 :: b13 :: b14 :: b15 :: b16 :: b17 :: b18 :: b19 :: b20 :: b21 :: B.v d :: E) Q = Q d (b0 :: b1 :: b2 :: b3 :: b4 :: b5 :: b6 :: b7 :: b8 :: b9 :: b10 :: b11 :: b12 :: b13 :: b14 :: b15 :: b16 :: b17 :: b18 :: b19 :: b20 :: b21 :: B.v d :: E) := by rw [we_V]; exact wo_some _ _
theorem getO_22 (b0 b1 b2 b3 b4 b5 b6 b7 b8 b9 b10 b11 b12 b13 b14 b15 b16 b17 b18 b19 b20 b21 : B) (m : M) (E : Env') : getO 22 (b0 :: b1 :: b2 :: b3 :: b4 :: b5 :: b6 :: b7 :: b8 :: b9 :: b10 :: b11 :: b12 :: b13 :: b14 :: b15 :: b16 :: b17 :: b18 :: b19 :: b20 :: b21 :: B.o m :: E) = some (unM m) := by cases m; rfl
theorem set_22 {α : Type} (b0 b1 b2 b3 b4 b5 b6 b7 b8 b9 b10 b11 b12 b13 b14 b15 b16 b17 b18 b19 b20 b21 : α) (b x : α) (E : List α) : (b0 :: b1 :: b2 :: b3 :: b4 :: b5 :: b6 :: b7 :: b8 :: b9 :: b10 :: b11 :: b12 :: b13 :: b14 :: b15 :: b16 :: b17 :: b18 :: b19 :: b20 :: b21 :: b :: E).set 22 x = b0 :: b1 :: b2 :: b3 :: b4 :: b5 :: b6 :: b7 :: b8 :: b9 :: b10 :: b11 :: b12 :: b13 :: b14 :: b15 :: b16 :: b17 :: b18 :: b19 :: b20 :: b21 :: x :: E := rfl
theorem at_22 {α : Type} (b0 b1 b2 b3 b4 b5 b6 b7 b8 b9 b10 b11 b12 b13 b14 b15 b16 b17 b18 b19 b20 b21 : α) (b : α) (E : List α) : (b0 :: b1 :: b2 :: b3 :: b4 :: b5 :: b6 :: b7 :: b8 :: b9 :: b10 :: b11 :: b12 :: b13 :: b14 :: b15 :: b16 :: b17 :: b18 :: b19 :: b20 :: b21 :: b :: E)[22]? = some b := rfl
theorem we_V23 (b0 b1 b2 b3 b4 b5 b6 b7 b8 b9 b10 b11 b12 b13 b14 b15 b16 b17 b18 b19 b20 b21 b22 : B) (d : PyData) (E : Env') (Q : PyData → Env' → Prop) : we (fV 23) (b0 :: b1 :: b2 :: b3 :: b4 :: b5 :: b6 :: b7 :: b8 :: b9 :: b10 :: b11 :: b12 :: b13 :: b14 :: b15 :: b16 :: b17 :: b18 :: b19 :: b20 :: b21 :: b22 :: B.v d :: E) Q = Q d (b0 :: b1 :: b2 :: b3 :: b4 :: b5 :: b6 :: b7 :: b8 :: b9 :: b10 :: b11 :: b12 :: b13 :: b14 :: b15 :: b16 :: b17 :: b18 :: b19 :: b20 :: b21 :: b22 :: B.v d :: E) := by rw [we_V]; exact wo_some _ _
theorem getO_23 (b0 b1 b2 b3 b4 b5 b6 b7 b8 b9 b10 b11 b12 b13 b14 b15 b16 b17 b18 b19 b20 b21 b22 : B) (m : M) (E : Env') : getO 23 (b0 :: b1 :: b2 :: b3 :: b4 :: b5 :: b6 :: b7 :: b8 :: b9 :: b10 :: b11 :: b12 :: b13 :: b14 :: b15 :: b16 :: b17 :: b18 :: b19 :: b20 :: b21 :: b22 :: B.o m :: E) = some (unM m) := by cases m; rfl
theorem set_23 {α : Type} (b0 b1 b2 b3 b4 b5 b6 b7 b8 b9 b10 b11 b12 b13 b14 b15 b16 b17 b18 b19 b20 b21 b22 : α) (b x : α) (E : List α) : (b0 :: b1 :: b2 :: b3 :: b4 :: b5 :: b6 :: b7 :: b8 :: b9 :: b10 :: b11 :: b12 :: b13 :: b14 :: b15 :: b16 :: b17 :: b18 :: b19 :: b20 :: b21 :: b22 :: b :: E).set 23 x = b0 :: b1 :: b2 :: b3 :: b4 :: b5 :: b6 :: b7 :: b8 :: b9 :: b10 :: b11 :: b12 :: b13 :: b14 :: b15 :: b16 :: b17 :: b18 :: b19 :: b20 :: b21 :: b22 :: x :: E := rfl
theorem at_23 {α : Type} (b0 b1 b2 b3 b4 b5 b6 b7 b8 b9 b10 b11 b12 b13 b14 b15 b16 b17 b18 b19 b20 b21 b22 : α) (b : α) (E : List α) : (b0 :: b1 :: b2 :: b3 :: b4 :: b5 :: b6 :: b7 :: b8 :: b9 :: b10 :: b11 :: b12 :: b13 :: b14 :: b15 :: b16 :: b17 :: b18 :: b19 :: b20 :: b21 :: b22 :: b :: E)[23]? = some b := rfl
theorem we_V24 (b0 b1 b2 b3 b4 b5 b6 b7 b8 b9 b10 b11 b12 b13 b14 b15 b16 b17 b18 b19 b20 b21 b22 b23 : B) (d : PyData) (E : Env') (Q : PyData → Env' → Prop) : we (fV 24) (b0 :: b1 :: b2 :: b3 :: b4 :: b5 :: b6 :: b7 :: b8 :: b9 :: b10 :: b11 :: b12 :: b13 :: b14 :: b15 :: b16 :: b17 :: b18 :: b19 :: b20 :: b21 :: b22 :: b23 :: B.v d :: E) Q = Q d (b0 :: b1 :: b2 :: b3 :: b4 :: b5 :: b6 :: b7 :: b8 :: b9 :: b10 :: b11 :: b12 :: b13 :: b14 :: b15 :: b16 :: b17 :: b18 :: b19 :: b20 :: b21 :: b22 :: b23 :: B.v d :: E) := by rw [we_V]; exact wo_some _ _
theorem getO_24 (b0 b1 b2 b3 b4 b5 b6 b7 b8 b9 b10 b11 b12 b13 b14 b15 b16 b17 b18 b19 b20 b21 b22 b23 : B) (m : M) (E : Env') : getO 24 (b0 :: b1 :: b2 :: b3 :: b4 :: b5 :: b6 :: b7 :: b8 :: b9 :: b10 :: b11 :: b12 :: b13 :: b14 :: b15 :: b16 :: b17 :: b18 :: b19 :: b20 :: b21 :: b22 :: b23 :: B.o m :: E) = some (unM m) := by cases m; rfl
theorem set_24 {α : Type} (b0 b1 b2 b3 b4 b5 b6 b7 b8 b9 b10 b11 b12 b13 b14 b15 b16 b17 b18 b19 b20 b21 b22 b23 : α) (b x : α) (E : List α) : (b0 :: b1 :: b2 :: b3 :: b4 :: b5 :: b6 :: b7 :: b8 :: b9 :: b10 :: b11 :: b12 :: b13 :: b14 :: b15 :: b16 :: b17 :: b18 :: b19 :: b20 :: b21 :: b22 :: b23 :: b :: E).set 24 x = b0 :: b1 :: b2 :: b3 :: b4 :: b5 :: b6 :: b7 :: b8 :: b9 :: b10 :: b11 :: b12 :: b13 :: b14 :: b15 :: b16 :: b17 :: b18 :: b19 :: b20 :: b21 :: b22 :: b23 :: x :: E := rfl
theorem at_24 {α : Type} (b0 b1 b2 b3 b4 b5 b6 b7 b8 b9 b10 b11 b12 b13 b14 b15 b16 b17 b18 b19 b20 b21 b22 b23 : α) (b : α) (E : List α) : (b0 :: b1 :: b2 :: b3 :: b4 :: b5 :: b6 :: b7 :: b8 :: b9 :: b10 :: b11 :: b12 :: b13 :: b14 :: b15 :: b16 :: b17 :: b18 :: b19 :: b20 :: b21 :: b22 :: b23 :: b :: E)[24]? = some b := rfl
theorem we_V25 (b0 b1 b2 b3 b4 b5 b6 b7 b8 b9 b10 b11 b12 b13 b14 b15 b16 b17 b18 b19 b20 b21 b22 b23 b24 : B) (d : PyData) (E : Env') (Q : PyData → Env' → Prop) : we (fV 25) (b0 :: b1 :: b2 :: b3 :: b4 :: b5 :: b6 :: b7 :: b8 :: b9 :: b10 :: b11 :: b12 :: b13 :: b14 :: b15 :: b16 :: b17 :: b18 :: b19 :: b20 :: b21 :: b22 :: b23 :: b24 :: B.v d :: E) Q = Q d (b0 :: b1 :: b2 :: b3 :: b4 :: b5 :: b6 :: b7 :: b8 :: b9 :: b10 :: b11 :: b12 :: b13 :: b14 :: b15 :: b16 :: b17 :: b18 :: b19 :: b20 :: b21 :: b22 :: b23 :: b24 :: B.v d :: E) := by rw [we_V]; exact wo_some _ _
theorem getO_25 (b0 b1 b2 b3 b4 b5 b6 b7 b8 b9 b10 b11 b12 b13 b14 b15 b16 b17 b18 b19 b20 b21 b22 b23 b24 : B) (m : M) (E : Env') : getO 25 (b0 :: b1 :: b2 :: b3 :: b4 :: b5 :: b6 :: b7 :: b8 :: b9 :: b10 :: b11 :: b12 :: b13 :: b14 :: b15 :: b16 :: b17 :: b18 :: b19 :: b20 :: b21 :: b22 :: b23 :: b24 :: B.o m :: E) = some (unM m) := by cases m; rfl
theorem set_25 {α : Type} (b0 b1 b2 b3 b4 b5 b6 b7 b8 b9 b10 b11 b12 b13 b14 b15 b16 b17 b18 b19 b20 b21 b22 b23 b24 : α) (b x : α) (E : List α) : (b0 :: b1 :: b2 :: b3 :: b4 :: b5 :: b6 :: b7 :: b8 :: b9 :: b10 :: b11 :: b12 :: b13 :: b14 :: b15 :: b16 :: b17 :: b18 :: b19 :: b20 :: b21 :: b22 :: b23 :: b24 :: b :: E).set 25 x = b0 :: b1 :: b2 :: b3 :: b4 :: b5 :: b6 :: b7 :: b8 :: b9 :: b10 :: b11 :: b12 :: b13 :: b14 :: b15 :: b16 :: b17 :: b18 :: b19 :: b20 :: b21 :: b22 :: b23 :: b24 :: x :: E := rfl
theorem at_25 {α : Type} (b0 b1 b2 b3 b4 b5 b6 b7 b8 b9 b10 b11 b12 b13 b14 b15 b16 b17 b18 b19 b20 b21 b22 b23 b24 : α) (b : α) (E : List α) : (b0 :: b1 :: b2 :: b3 :: b4 :: b5 :: b6 :: b7 :: b8 :: b9 :: b10 :: b11 :: b12 :: b13 :: b14 :: b15 :: b16 :: b17 :: b18 :: b19 :: b20 :: b21 :: b22 :: b23 :: b24 :: b :: E)[25]? = some b := rfl
theorem take_1 {α : Type} (b0 : α) (E : List α) : (b0 :: E).take 1 = [b0] := by simp
theorem take_2 {α : Type} (b0 b1 : α) (E : List α) : (b0 :: b1 :: E).take 2 = [b0, b1] := by simp
theorem take_3 {α : Type} (b0 b1 b2 : α) (E : List α) : (b0 :: b1 :: b2 :: E).take 3 = [b0, b1, b2] := by simp
theorem take_4 {α : Type} (b0 b1 b2 b3 : α) (E : List α) : (b0 :: b1 :: b2 :: b3 :: E).take 4 = [b0, b1, b2, b3] := by simp
theorem take_5 {α : Type} (b0 b1 b2 b3 b4 : α) (E : List α) : (b0 :: b1 :: b2 :: b3 :: b4 :: E).take 5 = [b0, b1, b2, b3, b4] := by simp
theorem take_6 {α : Type} (b0 b1 b2 b3 b4 b5 : α) (E : List α) : (b0 :: b1 :: b2 :: b3 :: b4 :: b5 :: E).take 6 = [b0, b1, b2, b3, b4, b5] := by simp
theorem take_7 {α : Type} (b0 b1 b2 b3 b4 b5 b6 : α) (E : List α) : (b0 :: b1 :: b2 :: b3 :: b4 :: b5 :: b6 :: E).take 7 = [b0, b1, b2, b3, b4, b5, b6] := by simp
theorem take_8 {α : Type} (b0 b1 b2 b3 b4 b5 b6 b7 : α) (E : List α) : (b0 :: b1 :: b2 :: b3 :: b4 :: b5 :: b6 :: b7 :: E).take 8 = [b0, b1, b2, b3, b4, b5, b6, b7] := by simp
theorem take_9 {α : Type} (b0 b1 b2 b3 b4 b5 b6 b7 b8 : α) (E : List α) : (b0 :: b1 :: b2 :: b3 :: b4 :: b5 :: b6 :: b7 :: b8 :: E).take 9 = [b0, b1, b2, b3, b4, b5, b6, b7, b8] := by simp
theorem take_10 {α : Type} (b0 b1 b2 b3 b4 b5 b6 b7 b8 b9 : α) (E : List α) : (b0 :: b1 :: b2 :: b3 :: b4 :: b5 :: b6 :: b7 :: b8 :: b9 :: E).take 10 = [b0, b1, b2, b3, b4, b5, b6, b7, b8, b9] := by simp
theorem take_11 {α : Type} (b0 b1 b2 b3 b4 b5 b6 b7 b8 b9 b10 : α) (E : List α) : (b0 :: b1 :: b2 :: b3 :: b4 :: b5 :: b6 :: b7 :: b8 :: b9 :: b10 :: E).take 11 = [b0, b1, b2, b3, b4, b5, b6, b7, b8, b9, b10] := by simp
theorem take_12 {α : Type} (b0 b1 b2 b3 b4 b5 b6 b7 b8 b9 b10 b11 : α) (E : List α) : (b0 :: b1 :: b2 :: b3 :: b4 :: b5 :: b6 :: b7 :: b8 :: b9 :: b10 :: b11 :: E).take 12 = [b0, b1, b2, b3, b4, b5, b6, b7, b8, b9, b10, b11] := by simp
theorem take_13 {α : Type} (b0 b1 b2 b3 b4 b5 b6 b7 b8 b9 b10 b11 b12 : α) (E : List α) : (b0 :: b1 :: b2 :: b3 :: b4 :: b5 :: b6 :: b7 :: b8 :: b9 :: b10 :: b11 :: b12 :: E).take 13 = [b0, b1, b2, b3, b4, b5, b6, b7, b8, b9, b10, b11, b12] := by simp
theorem take_14 {α : Type} (b0 b1 b2 b3 b4 b5 b6 b7 b8 b9 b10 b11 b12 b13 : α) (E : List α) : (b0 :: b1 :: b2 :: b3 :: b4 :: b5 :: b6 :: b7 :: b8 :: b9 :: b10 :: b11 :: b12 :: b13 :: E).take 14 = [b0, b1, b2, b3, b4, b5, b6, b7, b8, b9, b10, b11, b12, b13] := by simp
theorem take_15 {α : Type} (b0 b1 b2 b3 b4 b5 b6 b7 b8 b9 b10 b11 b12 b13 b14 : α) (E : List α) : (b0 :: b1 :: b2 :: b3 :: b4 :: b5 :: b6 :: b7 :: b8 :: b9 :: b10 :: b11 :: b12 :: b13 :: b14 :: E).take 15 = [b0, b1, b2, b3, b4, b5, b6, b7, b8, b9, b10, b11, b12, b13, b14] := by simp
theorem take_16 {α : Type} (b0 b1 b2 b3 b4 b5 b6 b7 b8 b9 b10 b11 b12 b13 b14 b15 : α) (E : List α) : (b0 :: b1 :: b2 :: b3 :: b4 :: b5 :: b6 :: b7 :: b8 :: b9 :: b10 :: b11 :: b12 :: b13 :: b14 :: b15 :: E).take 16 = [b0, b1, b2, b3, b4, b5, b6, b7, b8, b9, b10, b11, b12, b13, b14, b15] := by simp
theorem take_17 {α : Type} (b0 b1 b2 b3 b4 b5 b6 b7 b8 b9 b10 b11 b12 b13 b14 b15 b16 : α) (E : List α) : (b0 :: b1 :: b2 :: b3 :: b4 :: b5 :: b6 :: b7 :: b8 :: b9 :: b10 :: b11 :: b12 :: b13 :: b14 :: b15 :: b16 :: E).take 17 = [b0, b1, b2, b3, b4, b5, b6, b7, b8, b9, b10, b11, b12, b13, b14, b15, b16] := by simp
theorem take_18 {α : Type} (b0 b1 b2 b3 b4 b5 b6 b7 b8 b9 b10 b11 b12 b13 b14 b15 b16 b17 : α) (E : List α) : (b0 :: b1 :: b2 :: b3 :: b4 :: b5 :: b6 :: b7 :: b8 :: b9 :: b10 :: b11 :: b12 :: b13 :: b14 :: b15 :: b16 :: b17 :: E).take 18 = [b0, b1, b2, b3, b4, b5, b6, b7, b8, b9, b10, b11, b12, b13, b14, b15, b16, b17] := by simp
theorem take_19 {α : Type} (b0 b1 b2 b3 b4 b5 b6 b7 b8 b9 b10 b11 b12 b13 b14 b15 b16 b17 b18 : α) (E : List α) : (b0 :: b1 :: b2 :: b3 :: b4 :: b5 :: b6 :: b7 :: b8 :: b9 :: b10 :: b11 :: b12 :: b13 :: b14 :: b15 :: b16 :: b17 :: b18 :: E).take 19 = [b0, b1, b2, b3, b4, b5, b6, b7, b8, b9, b10, b11, b12, b13, b14, b15, b16, b17, b18] := by simp
theorem take_20 {α : Type} (b0 b1 b2 b3 b4 b5 b6 b7 b8 b9 b10 b11 b12 b13 b14 b15 b16 b17 b18 b19 : α) (E : List α) : (b0 :: b1 :: b2 :: b3 :: b4 :: b5 :: b6 :: b7 :: b8 :: b9 :: b10 :: b11 :: b12 :: b13 :: b14 :: b15 :: b16 :: b17 :: b18 :: b19 :: E).take 20 = [b0, b1, b2, b3, b4, b5, b6, b7, b8, b9, b10, b11, b12, b13, b14, b15, b16, b17, b18, b19] := by simp
theorem take_21 {α : Type} (b0 b1 b2 b3 b4 b5 b6 b7 b8 b9 b10 b11 b12 b13 b14 b15 b16 b17 b18 b19 b20 : α) (E : List α) : (b0 :: b1 :: b2 :: b3 :: b4 :: b5 :: b6 :: b7 :: b8 :: b9 :: b10 :: b11 :: b12 :: b13 :: b14 :: b15 :: b16 :: b17 :: b18 :: b19 :: b20 :: E).take 21 = [b0, b1, b2, b3, b4, b5, b6, b7, b8, b9, b10, b11, b12, b13, b14, b15, b16, b17, b18, b19, b20] := by simp
theorem take_22 {α : Type} (b0 b1 b2 b3 b4 b5 b6 b7 b8 b9 b10 b11 b12 b13 b14 b15 b16 b17 b18 b19 b20 b21 : α) (E : List α) : (b0 :: b1 :: b2 :: b3 :: b4 :: b5 :: b6 :: b7 :: b8 :: b9 :: b10 :: b11 :: b12 :: b13 :: b14 :: b15 :: b16 :: b17 :: b18 :: b19 :: b20 :: b21 :: E).take 22 = [b0, b1, b2, b3, b4, b5, b6, b7, b8, b9, b10, b11, b12, b13, b14, b15, b16, b17, b18, b19, b20, b21] := by simp
theorem take_23 {α : Type} (b0 b1 b2 b3 b4 b5 b6 b7 b8 b9 b10 b11 b12 b13 b14 b15 b16 b17 b18 b19 b20 b21 b22 : α) (E : List α) : (b0 :: b1 :: b2 :: b3 :: b4 :: b5 :: b6 :: b7 :: b8 :: b9 :: b10 :: b11 :: b12 :: b13 :: b14 :: b15 :: b16 :: b17 :: b18 :: b19 :: b20 :: b21 :: b22 :: E).take 23 = [b0, b1, b2, b3, b4, b5, b6, b7, b8, b9, b10, b11, b12, b13, b14, b15, b16, b17, b18, b19, b20, b21, b22] := by simp
theorem take_24 {α : Type} (b0 b1 b2 b3 b4 b5 b6 b7 b8 b9 b10 b11 b12 b13 b14 b15 b16 b17 b18 b19 b20 b21 b22 b23 : α) (E : List α) : (b0 :: b1 :: b2 :: b3 :: b4 :: b5 :: b6 :: b7 :: b8 :: b9 :: b10 :: b11 :: b12 :: b13 :: b14 :: b15 :: b16 :: b17 :: b18 :: b19 :: b20 :: b21 :: b22 :: b23 :: E).take 24 = [b0, b1, b2, b3, b4, b5, b6, b7, b8, b9, b10, b11, b12, b13, b14, b15, b16, b17, b18, b19, b20, b21, b22, b23] := by simp
theorem take_25 {α : Type} (b0 b1 b2 b3 b4 b5 b6 b7 b8 b9 b10 b11 b12 b13 b14 b15 b16 b17 b18 b19 b20 b21 b22 b23 b24 : α) (E : List α) : (b0 :: b1 :: b2 :: b3 :: b4 :: b5 :: b6 :: b7 :: b8 :: b9 :: b10 :: b11 :: b12 :: b13 :: b14 :: b15 :: b16 :: b17 :: b18 :: b19 :: b20 :: b21 :: b22 :: b23 :: b24 :: E).take 25 = [b0, b1, b2, b3, b4, b5, b6, b7, b8, b9, b10, b11, b12, b13, b14, b15, b16, b17, b18, b19, b20, b21, b22, b23, b24] := by simp
theorem k_add_ii (i j : Int) : oAdd (.int i) (.int j) = some (.int (i + j)) := by rfl
theorem k_add_ss (x y : Str) : oAdd (.str x) (.str y) = if x.length + y.length ≤ 16777216 then some (.str (x ++ y)) else none := by rfl
theorem k_add_tt (x y : List PyData) : oAdd (.tuple x) (.tuple y) = if x.length + y.length ≤ 16777216 then some (.tuple (x ++ y)) else none := by rfl
theorem k_add_ll (x y : List PyData) : oAdd (.list x) (.list y) = if x.length + y.length ≤ 16777216 then some (.list (x ++ y)) else none := by rfl
theorem k_sub_ii (i j : Int) : oSub (.int i) (.int j) = some (.int (i - j)) := by rfl
theorem k_mul_ii (i j : Int) : oMul (.int i) (.int j) = if i.natAbs.log2 + j.natAbs.log2 < 1000000 then some (.int (i * j)) else none := by rfl
theorem k_mul_li (xs : List PyData) (k : Int) : oMul (.list xs) (.int k) = if -(2 ^ 63) ≤ k ∧ k < 2 ^ 63 ∧ xs.length * k.toNat ≤ 16777216 then some (.list (List.replicate k.toNat xs).flatten) else none := by rfl
theorem k_div_ii (i j : Int) : oDiv (.int i) (.int j) = if 0 < j ∧ j.natAbs.log2 < 9000 then some (.int (i / j)) else none := by rfl
theorem k_mod_ii (i j : Int) : oMod (.int i) (.int j) = if 0 < j then some (.int (i % j)) else none := by rfl
theorem k_pow_ii (i j : Int) : oPow (.int i) (.int j) = if 0 ≤ j ∧ j ≤ 1000000 ∧ i.natAbs < 2 ^ 64 then some (.int (i ^ j.toNat)) else none := by rfl
theorem k_rel_ii (p : Int → Int → Bool) (i j : Int) : oRel p (.int i) (.int j) = some (.bool (p i j)) := by rfl
theorem k_eq_none_none : oEq .none .none = some (.bool (true)) := by rfl
theorem k_ne_none_none : oNe .none .none = some (.bool (!true)) := by rfl
theorem k_eq_none_bool (y : Bool) : oEq .none (.bool y) = some (.bool (false)) := by rfl
theorem k_ne_none_bool (y : Bool) : oNe .none (.bool y) = some (.bool (!false)) := by rfl
theorem k_eq_none_int (y : Int) : oEq .none (.int y) = some (.bool (false)) := by rfl
theorem k_ne_none_int (y : Int) : oNe .none (.int y) = some (.bool (!false)) := by rfl
theorem k_eq_none_str (y : Str) : oEq .none (.str y) = some (.bool (false)) := by rfl
theorem k_ne_none_str (y : Str) : oNe .none (.str y) = some (.bool (!false)) := by rfl
theorem k_eq_none_tuple (y : List PyData) : oEq .none (.tuple y) = some (.bool (false)) := by rfl
theorem k_ne_none_tuple (y : List PyData) : oNe .none (.tuple y) = some (.bool (!false)) := by rfl
theorem k_eq_bool_none (x : Bool) : oEq (.bool x) .none = some (.bool (false)) := by rfl
theorem k_ne_bool_none (x : Bool) : oNe (.bool x) .none = some (.bool (!false)) := by rfl
theorem k_eq_bool_bool (x : Bool) (y : Bool) : oEq (.bool x) (.bool y) = some (.bool (decide (x = y))) := by rfl
theorem k_ne_bool_bool (x : Bool) (y : Bool) : oNe (.bool x) (.bool y) = some (.bool (!decide (x = y))) := by rfl
theorem k_eq_bool_str (x : Bool) (y : Str) : oEq (.bool x) (.str y) = some (.bool (false)) := by rfl
theorem k_ne_bool_str (x : Bool) (y : Str) : oNe (.bool x) (.str y) = some (.bool (!false)) := by rfl
theorem k_eq_bool_tuple (x : Bool) (y : List PyData) : oEq (.bool x) (.tuple y) = some (.bool (false)) := by rfl
theorem k_ne_bool_tuple (x : Bool) (y : List PyData) : oNe (.bool x) (.tuple y) = some (.bool (!false)) := by rfl
theorem k_eq_int_none (x : Int) : oEq (.int x) .none = some (.bool (false)) := by rfl
theorem k_ne_int_none (x : Int) : oNe (.int x) .none = some (.bool (!false)) := by rfl
theorem k_eq_int_int (x : Int) (y : Int) : oEq (.int x) (.int y) = some (.bool (decide (x = y))) := by rfl
theorem k_ne_int_int (x : Int) (y : Int) : oNe (.int x) (.int y) = some (.bool (!decide (x = y))) := by rfl
theorem k_eq_int_str (x : Int) (y : Str) : oEq (.int x) (.str y) = some (.bool (false)) := by rfl
theorem k_ne_int_str (x : Int) (y : Str) : oNe (.int x) (.str y) = some (.bool (!false)) := by rfl
theorem k_eq_int_tuple (x : Int) (y : List PyData) : oEq (.int x) (.tuple y) = some (.bool (false)) := by rfl
theorem k_ne_int_tuple (x : Int) (y : List PyData) : oNe (.int x) (.tuple y) = some (.bool (!false)) := by rfl
theorem k_eq_str_none (x : Str) : oEq (.str x) .none = some (.bool (false)) := by rfl
theorem k_ne_str_none (x : Str) : oNe (.str x) .none = some (.bool (!false)) := by rfl
theorem k_eq_str_bool (x : Str) (y : Bool) : oEq (.str x) (.bool y) = some (.bool (false)) := by rfl
theorem k_ne_str_bool (x : Str) (y : Bool) : oNe (.str x) (.bool y) = some (.bool (!false)) := by rfl
theorem k_eq_str_int (x : Str) (y : Int) : oEq (.str x) (.int y) = some (.bool (false)) := by rfl
theorem k_ne_str_int (x : Str) (y : Int) : oNe (.str x) (.int y) = some (.bool (!false)) := by rfl
theorem k_eq_str_str (x : Str) (y : Str) : oEq (.str x) (.str y) = some (.bool (decide (x = y))) := by rfl
theorem k_ne_str_str (x : Str) (y : Str) : oNe (.str x) (.str y) = some (.bool (!decide (x = y))) := by rfl
theorem k_eq_str_tuple (x : Str) (y : List PyData) : oEq (.str x) (.tuple y) = some (.bool (false)) := by rfl
theorem k_ne_str_tuple (x : Str) (y : List PyData) : oNe (.str x) (.tuple y) = some (.bool (!false)) := by rfl
theorem k_eq_tuple_none (x : List PyData) : oEq (.tuple x) .none = some (.bool (false)) := by rfl
theorem k_ne_tuple_none (x : List PyData) : oNe (.tuple x) .none = some (.bool (!false)) := by rfl
theorem k_eq_tuple_bool (x : List PyData) (y : Bool) : oEq (.tuple x) (.bool y) = some (.bool (false)) := by rfl
theorem k_ne_tuple_bool (x : List PyData) (y : Bool) : oNe (.tuple x) (.bool y) = some (.bool (!false)) := by rfl
theorem k_eq_tuple_int (x : List PyData) (y : Int) : oEq (.tuple x) (.int y) = some (.bool (false)) := by rfl
theorem k_ne_tuple_int (x : List PyData) (y : Int) : oNe (.tuple x) (.int y) = some (.bool (!false)) := by rfl
theorem k_eq_tuple_str (x : List PyData) (y : Str) : oEq (.tuple x) (.str y) = some (.bool (false)) := by rfl
theorem k_ne_tuple_str (x : List PyData) (y : Str) : oNe (.tuple x) (.str y) = some (.bool (!false)) := by rfl
theorem k_eq_nil_l (ys : List PyData) : oEq (.tuple []) (.tuple ys) = some (.bool ys.isEmpty) := by cases ys <;> rfl
theorem k_eq_nil_r (ys : List PyData) : oEq (.tuple ys) (.tuple []) = some (.bool ys.isEmpty) := by cases ys <;> rfl
theorem k_ne_nil_l (ys : List PyData) : oNe (.tuple []) (.tuple ys) = some (.bool (!ys.isEmpty)) := by cases ys <;> rfl
theorem k_ne_nil_r (ys : List PyData) : oNe (.tuple ys) (.tuple []) = some (.bool (!ys.isEmpty)) := by cases ys <;> rfl
theorem k_eqL_nil_r (ys : List PyData) : oEqL (.list ys) (.list []) = some (.bool ys.isEmpty) := by cases ys <;> rfl
theorem k_eqL_nil_l (ys : List PyData) : oEqL (.list []) (.list ys) = some (.bool ys.isEmpty) := by cases ys <;> rfl
theorem k_isTup_none : isTup .none = false := by rfl
theorem k_isTup_bool (x : Bool) : isTup (.bool x) = false := by rfl
theorem k_isTup_int (x : Int) : isTup (.int x) = false := by rfl
theorem k_isTup_str (x : Str) : isTup (.str x) = false := by rfl
theorem k_isTup_tuple (x : List PyData) : isTup (.tuple x) = true := by rfl
theorem k_isTup_list (x : List PyData) : isTup (.list x) = false := by rfl
theorem k_isTup_dict (x : List (PyData × PyData)) : isTup (.dict x) = false := by rfl
theorem k_isStr_none : isStr .none = false := by rfl
theorem k_isStr_bool (x : Bool) : isStr (.bool x) = false := by rfl
theorem k_isStr_int (x : Int) : isStr (.int x) = false := by rfl
theorem k_isStr_str (x : Str) : isStr (.str x) = true := by rfl
theorem k_isStr_tuple (x : List PyData) : isStr (.tuple x) = false := by rfl
theorem k_isStr_list (x : List PyData) : isStr (.list x) = false := by rfl
theorem k_isStr_dict (x : List (PyData × PyData)) : isStr (.dict x) = false := by rfl
theorem k_isBool_none : isBool .none = false := by rfl
theorem k_isBool_bool (x : Bool) : isBool (.bool x) = true := by rfl
theorem k_isBool_int (x : Int) : isBool (.int x) = false := by rfl
theorem k_isBool_str (x : Str) : isBool (.str x) = false := by rfl
theorem k_isBool_tuple (x : List PyData) : isBool (.tuple x) = false := by rfl
theorem k_isBool_list (x : List PyData) : isBool (.list x) = false := by rfl
theorem k_isBool_dict (x : List (PyData × PyData)) : isBool (.dict x) = false := by rfl
theorem k_isInt_none : isInt .none = false := by rfl
theorem k_isInt_bool (x : Bool) : isInt (.bool x) = true := by rfl
theorem k_isInt_int (x : Int) : isInt (.int x) = true := by rfl
theorem k_isInt_str (x : Str) : isInt (.str x) = false := by rfl
theorem k_isInt_tuple (x : List PyData) : isInt (.tuple x) = false := by rfl
theorem k_isInt_list (x : List PyData) : isInt (.list x) = false := by rfl
theorem k_isInt_dict (x : List (PyData × PyData)) : isInt (.dict x) = false := by rfl
theorem k_isList_none : isList .none = false := by rfl
theorem k_isList_bool (x : Bool) : isList (.bool x) = false := by rfl
theorem k_isList_int (x : Int) : isList (.int x) = false := by rfl
theorem k_isList_str (x : Str) : isList (.str x) = false := by rfl
theorem k_isList_tuple (x : List PyData) : isList (.tuple x) = false := by rfl
theorem k_isList_list (x : List PyData) : isList (.list x) = true := by rfl
theorem k_isList_dict (x : List (PyData × PyData)) : isList (.dict x) = false := by rfl
theorem k_isDict_none : isDict .none = false := by rfl
theorem k_isDict_bool (x : Bool) : isDict (.bool x) = false := by rfl
theorem k_isDict_int (x : Int) : isDict (.int x) = false := by rfl
theorem k_isDict_str (x : Str) : isDict (.str x) = false := by rfl
theorem k_isDict_tuple (x : List PyData) : isDict (.tuple x) = false := by rfl
theorem k_isDict_list (x : List PyData) : isDict (.list x) = false := by rfl
theorem k_isDict_dict (x : List (PyData × PyData)) : isDict (.dict x) = true := by rfl
theorem k_isNon_none : isNon .none = true := by rfl
theorem k_isNon_bool (x : Bool) : isNon (.bool x) = false := by rfl
theorem k_isNon_int (x : Int) : isNon (.int x) = false := by rfl
theorem k_isNon_str (x : Str) : isNon (.str x) = false := by rfl
theorem k_isNon_tuple (x : List PyData) : isNon (.tuple x) = false := by rfl
theorem k_isNon_list (x : List PyData) : isNon (.list x) = false := by rfl
theorem k_isNon_dict (x : List (PyData × PyData)) : isNon (.dict x) = false := by rfl
theorem k_oIs (p : PyData → Bool) (x : PyData) : oIs p x = some (.bool (p x)) := by rfl
theorem k_oIsN (x : PyData) : oIsN x = some (.bool (isNon x)) := by rfl
theorem k_oNotN (x : PyData) : oNotN x = some (.bool (!isNon x)) := by rfl
theorem k_len_s (x : Str) : oLen [.str x] = some (.int x.length) := by rfl
theorem k_len_t (x : List PyData) : oLen [.tuple x] = some (.int x.length) := by rfl
theorem k_len_l (x : List PyData) : oLen [.list x] = some (.int x.length) := by rfl
theorem k_asB (b : Bool) : asB (.bool b) = some b := by rfl
theorem k_asI (b : Int) : asI (.int b) = some (some b) := by rfl
theorem k_tru_none : truD .none = some (false) := by rfl
theorem k_tru_bool (x : Bool) : truD (.bool x) = some (x) := by rfl
theorem k_tru_int (x : Int) : truD (.int x) = some (x != 0) := by rfl
theorem k_tru_str (x : Str) : truD (.str x) = some ((x.length : Int) != 0) := by rfl
theorem k_tru_tuple (x : List PyData) : truD (.tuple x) = some (!x.isEmpty) := by rfl
theorem k_tru_list (x : List PyData) : truD (.list x) = some (!x.isEmpty) := by rfl
theorem k_tru_dict (x : List (PyData × PyData)) : truD (.dict x) = some (false) := by rfl
theorem k_ix_t (x : List PyData) (i : Int) : oIx (.tuple x) (.int i) = atI x i := by rfl
theorem k_ix_l (x : List PyData) (i : Int) : oIx (.list x) (.int i) = atI x i := by rfl
theorem k_ix_s (x : Str) (i : Int) : oIx (.str x) (.int i) = (atI x.cps.toList i).map fun c => .str ⟨#[c]⟩ := by rfl
theorem k_sl_t (x : List PyData) (l h : Option Int) : oSl (.tuple x) l h = some (.tuple (cutP x l h)) := by rfl
theorem k_sl_l (x : List PyData) (l h : Option Int) : oSl (.list x) l h = some (.list (cutP x l h)) := by rfl
theorem k_sl_s (x : Str) (l h : Option Int) : oSl (.str x) l h = some (.str (cutS x l h)) := by rfl
theorem k_abs (i : Int) : oAbs [.int i] = some (.int (absI i)) := by rfl
theorem k_max (i j : Int) : oMax [.int i, .int j] = some (.int (if j > i then j else i)) := by rfl
theorem k_min (i j : Int) : oMin [.int i, .int j] = some (.int (if j < i then j else i)) := by rfl
theorem k_int_i (i : Int) : oInt [.int i] = some (.int i) := by rfl
theorem k_int_b (b : Bool) : oInt [.bool b] = some (.int (b2i b)) := by rfl
theorem k_tup_l (x : List PyData) : oTup [.list x] = some (.tuple x) := by rfl
theorem k_tup_t (x : List PyData) : oTup [.tuple x] = some (.tuple x) := by rfl
theorem k_lst_l (x : List PyData) : oList [.list x] = some (.list x) := by rfl
theorem k_lst_t (x : List PyData) : oList [.tuple x] = some (.list x) := by rfl
theorem k_all (x : List PyData) : oAll [.list x] = (allB x).map fun bs => .bool (bs.all id) := by rfl
theorem k_any (x : List PyData) : oAny [.list x] = (allB x).map fun bs => .bool (bs.any id) := by rfl
theorem k_itL (x : List PyData) : itL (.list x) = some x := by rfl
theorem k_itT (x : List PyData) : itT (.tuple x) = some x := by rfl
theorem k_itS (x : Str) : itS (.str x) = some (sgn x) := by rfl
theorem k_itZ_ll (x y : List PyData) : itZ [.list x, .list y] = some (List.zipWith (fun x y => .tuple [x, y]) x y) := by rfl
theorem k_itZ_tt (x y : List PyData) : itZ [.tuple x, .tuple y] = some (List.zipWith (fun x y => .tuple [x, y]) x y) := by rfl
theorem k_τN (i : Nat) (d : PyData) : τN i d = some [(i, d)] := by rfl
theorem k_τNil : τNil [] = some [] := by rfl
theorem k_τCons (t : Tf) (u : List PyData → Option (List (Nat × PyData))) (d : PyData) (ds : List PyData) : τCons t u (d :: ds) = (t d).bind fun a => (u ds).map fun b => a ++ b := by rfl
theorem k_τT (n : Nat) (u : List PyData → Option (List (Nat × PyData))) (ds : List PyData) : τT n u (.tuple ds) = if ds.length = n then u ds else none := by rfl
theorem k_setE_nil (E : Env') : setE E [] = E := by rfl
theorem k_setE_cons (E : Env') (i : Nat) (d : PyData) (ps : List (Nat × PyData)) : setE E ((i, d) :: ps) = setE (E.set i (B.v d)) ps := by rfl
theorem k_wipe_nil (E : Env') : wipeE E [] = E := by rfl
theorem k_wipe_cons (E : Env') (v : Nat) (vs : List Nat) : wipeE E (v :: vs) = (wipeE E vs).set v B.u := by rfl
theorem k_back_nil (E E' : Env') : backE E E' [] = E' := by rfl
theorem k_back_cons (E E' : Env') (v : Nat) (vs : List Nat) : backE E E' (v :: vs) = (match E[v]? with | some b => (backE E E' vs).set v b | none => backE E E' vs) := by rfl
theorem k_own_u : isOwn (some B.u) = false := by rfl
theorem k_own_v (d : PyData) : isOwn (some (B.v d)) = false := by rfl
theorem k_own_o (d : M) : isOwn (some (B.o d)) = true := by rfl
theorem k_allB_nil : allB [] = some [] := by rfl
theorem k_allB_cons (d : PyData) (ds : List PyData) : allB (d :: ds) = (asB d).bind fun b => (allB ds).map fun bs => b :: bs := by rfl
theorem k_inT (t : List (Str × PyData)) (f : Bool → Bool) (z : Str) : oInT t f (.str z) = some (.bool (f (tblLook t z).isSome)) := by rfl
theorem k_ixT (t : List (Str × PyData)) (z : Str) : oIxT t (.str z) = tblLook t z := by rfl
theorem k_rng1 (n : Int) : itR1 [.int n] = itR 0 n := by rfl
theorem k_rng2 (m n : Int) : itR2 [.int m, .int n] = itR m n := by rfl
theorem k_rep_1 {α : Type} (b : α) : List.replicate 1 b = [b] := by rfl
theorem k_rep_2 {α : Type} (b : α) : List.replicate 2 b = [b, b] := by rfl
theorem k_rep_3 {α : Type} (b : α) : List.replicate 3 b = [b, b, b] := by rfl
theorem k_rep_4 {α : Type} (b : α) : List.replicate 4 b = [b, b, b, b] := by rfl
theorem k_rep_5 {α : Type} (b : α) : List.replicate 5 b = [b, b, b, b, b] := by rfl
theorem k_rep_6 {α : Type} (b : α) : List.replicate 6 b = [b, b, b, b, b, b] := by rfl
theorem k_rep_7 {α : Type} (b : α) : List.replicate 7 b = [b, b, b, b, b, b, b] := by rfl
theorem k_rep_8 {α : Type} (b : α) : List.replicate 8 b = [b, b, b, b, b, b, b, b] := by rfl
theorem k_rep_9 {α : Type} (b : α) : List.replicate 9 b = [b, b, b, b, b, b, b, b, b] := by rfl
theorem k_rep_10 {α : Type} (b : α) : List.replicate 10 b = [b, b, b, b, b, b, b, b, b, b] := by rfl
theorem k_rep_11 {α : Type} (b : α) : List.replicate 11 b = [b, b, b, b, b, b, b, b, b, b, b] := by rfl
theorem k_rep_12 {α : Type} (b : α) : List.replicate 12 b = [b, b, b, b, b, b, b, b, b, b, b, b] := by rfl
theorem k_rep_13 {α : Type} (b : α) : List.replicate 13 b = [b, b, b, b, b, b, b, b, b, b, b, b, b] := by rfl
theorem k_rep_14 {α : Type} (b : α) : List.replicate 14 b = [b, b, b, b, b, b, b, b, b, b, b, b, b, b] := by rfl
theorem k_rep_15 {α : Type} (b : α) : List.replicate 15 b = [b, b, b, b, b, b, b, b, b, b, b, b, b, b, b] := by rfl
theorem k_rep_16 {α : Type} (b : α) : List.replicate 16 b = [b, b, b, b, b, b, b, b, b, b, b, b, b, b, b, b] := by rfl
theorem k_rep_17 {α : Type} (b : α) : List.replicate 17 b = [b, b, b, b, b, b, b, b, b, b, b, b, b, b, b, b, b] := by rfl
theorem k_rep_18 {α : Type} (b : α) : List.replicate 18 b = [b, b, b, b, b, b, b, b, b, b, b, b, b, b, b, b, b, b] := by rfl
theorem k_rep_19 {α : Type} (b : α) : List.replicate 19 b = [b, b, b, b, b, b, b, b, b, b, b, b, b, b, b, b, b, b, b] := by rfl
theorem k_rep_20 {α : Type} (b : α) : List.replicate 20 b = [b, b, b, b, b, b, b, b, b, b, b, b, b, b, b, b, b, b, b, b] := by rfl
theorem k_rep_0 {α : Type} (b : α) : List.replicate 0 b = [] := by rfl
theorem k_atI_0 {α : Type} (x0 : α) (xs : List α) : atI (x0 :: xs) 0 = some x0 := by exact atI_nat (i := 0) rfl
theorem k_atI_1 {α : Type} (x0 x1 : α) (xs : List α) : atI (x0 :: x1 :: xs) 1 = some x1 := by exact atI_nat (i := 1) rfl
theorem k_atI_2 {α : Type} (x0 x1 x2 : α) (xs : List α) : atI (x0 :: x1 :: x2 :: xs) 2 = some x2 := by exact atI_nat (i := 2) rfl
theorem k_atI_3 {α : Type} (x0 x1 x2 x3 : α) (xs : List α) : atI (x0 :: x1 :: x2 :: x3 :: xs) 3 = some x3 := by exact atI_nat (i := 3) rfl
theorem k_atI_4 {α : Type} (x0 x1 x2 x3 x4 : α) (xs : List α) : atI (x0 :: x1 :: x2 :: x3 :: x4 :: xs) 4 = some x4 := by exact atI_nat (i := 4) rfl
theorem k_atI_5 {α : Type} (x0 x1 x2 x3 x4 x5 : α) (xs : List α) : atI (x0 :: x1 :: x2 :: x3 :: x4 :: x5 :: xs) 5 = some x5 := by exact atI_nat (i := 5) rfl
theorem k_atI_6 {α : Type} (x0 x1 x2 x3 x4 x5 x6 : α) (xs : List α) : atI (x0 :: x1 :: x2 :: x3 :: x4 :: x5 :: x6 :: xs) 6 = some x6 := by exact atI_nat (i := 6) rfl
theorem k_atI_7 {α : Type} (x0 x1 x2 x3 x4 x5 x6 x7 : α) (xs : List α) : atI (x0 :: x1 :: x2 :: x3 :: x4 :: x5 :: x6 :: x7 :: xs) 7 = some x7 := by exact atI_nat (i := 7) rfl
theorem k_atI_8 {α : Type} (x0 x1 x2 x3 x4 x5 x6 x7 x8 : α) (xs : List α) : atI (x0 :: x1 :: x2 :: x3 :: x4 :: x5 :: x6 :: x7 :: x8 :: xs) 8 = some x8 := by exact atI_nat (i := 8) rfl
theorem k_atI_9 {α : Type} (x0 x1 x2 x3 x4 x5 x6 x7 x8 x9 : α) (xs : List α) : atI (x0 :: x1 :: x2 :: x3 :: x4 :: x5 :: x6 :: x7 :: x8 :: x9 :: xs) 9 = some x9 := by exact atI_nat (i := 9) rfl
theorem k_atI_10 {α : Type} (x0 x1 x2 x3 x4 x5 x6 x7 x8 x9 x10 : α) (xs : List α) : atI (x0 :: x1 :: x2 :: x3 :: x4 :: x5 :: x6 :: x7 :: x8 :: x9 :: x10 :: xs) 10 = some x10 := by exact atI_nat (i := 10) rfl
theorem k_atI_11 {α : Type} (x0 x1 x2 x3 x4 x5 x6 x7 x8 x9 x10 x11 : α) (xs : List α) : atI (x0 :: x1 :: x2 :: x3 :: x4 :: x5 :: x6 :: x7 :: x8 :: x9 :: x10 :: x11 :: xs) 11 = some x11 := by exact atI_nat (i := 11) rfl
theorem k_atI_12 {α : Type} (x0 x1 x2 x3 x4 x5 x6 x7 x8 x9 x10 x11 x12 : α) (xs : List α) : atI (x0 :: x1 :: x2 :: x3 :: x4 :: x5 :: x6 :: x7 :: x8 :: x9 :: x10 :: x11 :: x12 :: xs) 12 = some x12 := by exact atI_nat (i := 12) rfl
theorem k_atI_13 {α : Type} (x0 x1 x2 x3 x4 x5 x6 x7 x8 x9 x10 x11 x12 x13 : α) (xs : List α) : atI (x0 :: x1 :: x2 :: x3 :: x4 :: x5 :: x6 :: x7 :: x8 :: x9 :: x10 :: x11 :: x12 :: x13 :: xs) 13 = some x13 := by exact atI_nat (i := 13) rfl
theorem k_ixN_0 (n : Nat) : ixN n 0 = if 0 < n then some 0 else none := by show (if (0 : Int) ≤ ((0 : Nat) : Int) then (if ((0 : Nat) : Int) < n then some ((0 : Nat) : Int).toNat else none) else _) = _; rw [if_pos (by omega)]; by_cases h : 0 < n <;> simp [h] <;> omega
theorem k_ixN_1 (n : Nat) : ixN n 1 = if 1 < n then some 1 else none := by show (if (0 : Int) ≤ ((1 : Nat) : Int) then (if ((1 : Nat) : Int) < n then some ((1 : Nat) : Int).toNat else none) else _) = _; rw [if_pos (by omega)]; by_cases h : 1 < n <;> simp [h] <;> omega
theorem k_ixN_2 (n : Nat) : ixN n 2 = if 2 < n then some 2 else none := by show (if (0 : Int) ≤ ((2 : Nat) : Int) then (if ((2 : Nat) : Int) < n then some ((2 : Nat) : Int).toNat else none) else _) = _; rw [if_pos (by omega)]; by_cases h : 2 < n <;> simp [h] <;> omega
theorem k_ixN_3 (n : Nat) : ixN n 3 = if 3 < n then some 3 else none := by show (if (0 : Int) ≤ ((3 : Nat) : Int) then (if ((3 : Nat) : Int) < n then some ((3 : Nat) : Int).toNat else none) else _) = _; rw [if_pos (by omega)]; by_cases h : 3 < n <;> simp [h] <;> omega
theorem k_ixN_4 (n : Nat) : ixN n 4 = if 4 < n then some 4 else none := by show (if (0 : Int) ≤ ((4 : Nat) : Int) then (if ((4 : Nat) : Int) < n then some ((4 : Nat) : Int).toNat else none) else _) = _; rw [if_pos (by omega)]; by_cases h : 4 < n <;> simp [h] <;> omega
theorem k_ixN_5 (n : Nat) : ixN n 5 = if 5 < n then some 5 else none := by show (if (0 : Int) ≤ ((5 : Nat) : Int) then (if ((5 : Nat) : Int) < n then some ((5 : Nat) : Int).toNat else none) else _) = _; rw [if_pos (by omega)]; by_cases h : 5 < n <;> simp [h] <;> omega
theorem k_ixN_6 (n : Nat) : ixN n 6 = if 6 < n then some 6 else none := by show (if (0 : Int) ≤ ((6 : Nat) : Int) then (if ((6 : Nat) : Int) < n then some ((6 : Nat) : Int).toNat else none) else _) = _; rw [if_pos (by omega)]; by_cases h : 6 < n <;> simp [h] <;> omega
theorem k_ixN_7 (n : Nat) : ixN n 7 = if 7 < n then some 7 else none := by show (if (0 : Int) ≤ ((7 : Nat) : Int) then (if ((7 : Nat) : Int) < n then some ((7 : Nat) : Int).toNat else none) else _) = _; rw [if_pos (by omega)]; by_cases h : 7 < n <;> simp [h] <;> omega
theorem k_b2i_t : b2i true = 1 := by rfl
theorem k_b2i_f : b2i false = 0 := by rfl
theorem k_flat_c {α : Type} (x : List α) (xs : List (List α)) : (x :: xs).flatten = x ++ xs.flatten := by rfl
theorem k_flat_n {α : Type} : ([] : List (List α)).flatten = [] := by rfl
theorem k_in_t (x : PyData) (ys : List PyData) : oIn x (.tuple ys) = if (flatP x && ys.all flatP) = true then some (.bool (ys.any fun y => eqF y x)) else none := by show (if (flatP x && ys.all flatP) = true then some (ys.any fun y => eqF y x) else none).map PyData.bool = _; cases (flatP x && ys.all flatP) <;> rfl
theorem k_in_l (x : PyData) (ys : List PyData) : oIn x (.list ys) = if (flatP x && ys.all flatP) = true then some (.bool (ys.any fun y => eqF y x)) else none := by show (if (flatP x && ys.all flatP) = true then some (ys.any fun y => eqF y x) else none).map PyData.bool = _; cases (flatP x && ys.all flatP) <;> rfl
theorem k_nin_t (x : PyData) (ys : List PyData) : oNotIn x (.tuple ys) = if (flatP x && ys.all flatP) = true then some (.bool (!(ys.any fun y => eqF y x))) else none := by show (if (flatP x && ys.all flatP) = true then some (ys.any fun y => eqF y x) else none).map (fun b => PyData.bool (!b)) = _; cases (flatP x && ys.all flatP) <;> rfl
theorem k_nin_l (x : PyData) (ys : List PyData) : oNotIn x (.list ys) = if (flatP x && ys.all flatP) = true then some (.bool (!(ys.any fun y => eqF y x))) else none := by show (if (flatP x && ys.all flatP) = true then some (ys.any fun y => eqF y x) else none).map (fun b => PyData.bool (!b)) = _; cases (flatP x && ys.all flatP) <;> rfl
theorem k_flat_none : flatP .none = true := by rfl
theorem k_flat_bool (x : Bool) : flatP (.bool x) = true := by rfl
theorem k_flat_int (x : Int) : flatP (.int x) = true := by rfl
theorem k_flat_str (x : Str) : flatP (.str x) = true := by rfl
theorem k_flat_tuple (x : List PyData) : flatP (.tuple x) = false := by rfl
theorem k_flat_list (x : List PyData) : flatP (.list x) = false := by rfl
theorem k_flat_dict (x : List (PyData × PyData)) : flatP (.dict x) = false := by rfl
theorem k_eqF_none_none : eqF .none .none = true := by rfl
theorem k_eqF_none_int (y : Int) : eqF .none (.int y) = false := by rfl
theorem k_eqF_none_str (y : Str) : eqF .none (.str y) = false := by rfl
theorem k_eqF_none_bool (y : Bool) : eqF .none (.bool y) = false := by rfl
theorem k_eqF_int_none (x : Int) : eqF (.int x) .none = false := by rfl
theorem k_eqF_int_int (x : Int) (y : Int) : eqF (.int x) (.int y) = decide (y = x) := by exact if h : x = y then by subst h; simp [eqF] else by simp [eqF, h, Ne.symm h]
theorem k_eqF_int_str (x : Int) (y : Str) : eqF (.int x) (.str y) = false := by rfl
theorem k_eqF_str_none (x : Str) : eqF (.str x) .none = false := by rfl
theorem k_eqF_str_int (x : Str) (y : Int) : eqF (.str x) (.int y) = false := by rfl
theorem k_eqF_str_str (x : Str) (y : Str) : eqF (.str x) (.str y) = decide (y = x) := by exact if h : x = y then by subst h; simp [eqF] else by simp [eqF, h, Ne.symm h]
theorem k_eqF_str_bool (x : Str) (y : Bool) : eqF (.str x) (.bool y) = false := by rfl
theorem k_eqF_bool_none (x : Bool) : eqF (.bool x) .none = false := by rfl
theorem k_eqF_bool_str (x : Bool) (y : Str) : eqF (.bool x) (.str y) = false := by rfl
theorem k_eqF_bool_bool (x : Bool) (y : Bool) : eqF (.bool x) (.bool y) = decide (y = x) := by exact if h : x = y then by subst h; simp [eqF] else by simp [eqF, h, Ne.symm h]
theorem k_some_bind {α β : Type} (a : α) (f : α → Option β) : (some a).bind f = f a := by rfl
theorem k_some_map {α β : Type} (a : α) (f : α → β) : (some a).map f = some (f a) := by rfl
theorem k_dec_b (b : Bool) : decide (b = true) = b := by cases b <;> rfl
theorem k_wif_same (b : Bool) (P : Prop) : wif b P P = P := by cases b <;> simp [wif]
theorem k_nodup_1 (a : Nat) : [a].Nodup = True := by simp
theorem k_nodup_2 (a b : Nat) : [a, b].Nodup = (a ≠ b) := by simp
theorem k_nodup_3 (a b c : Nat) : [a, b, c].Nodup = ((a ≠ b ∧ a ≠ c) ∧ b ≠ c) := by simp
theorem k_nodup_4 (a b c d : Nat) : [a, b, c, d].Nodup = ((a ≠ b ∧ a ≠ c ∧ a ≠ d) ∧ (b ≠ c ∧ b ≠ d) ∧ c ≠ d) := by simp
theorem k_ofS (a b : String) : (Str.ofString a = Str.ofString b) = (a = b) := by
  refine propext ⟨fun h => ?_, fun h => by rw [h]⟩
  rw [Str.ofString_eq_toList, Str.ofString_eq_toList] at h
  have h1 : a.toList.map Char.toNat = b.toList.map Char.toNat := by
    have h2 := congrArg (fun s : Str => s.cps.toList) h
    simpa using h2
  exact String.toList_inj.mp ((List.map_inj_right (fun c d e => Char.toNat_inj.mp e)).mp h1)
theorem k_ne_dec (i : Int) : (i != 0) = !decide (i = 0) := by rfl
end
def kW := And.intro @we_C <| And.intro @we_f1 <| And.intro @we_f2 <| And.intro @we_f1s <| And.intro @we_f2l <| And.intro @we_f2r <| And.intro @we_aNil <| And.intro @we_aV <| And.intro @we_aS <| And.intro @we_fB <| And.intro @we_fZ <| And.intro @we_fDisp <| And.intro @we_fLst1 <| And.intro @we_vL <| And.intro @we_gYes <| And.intro @we_pNo <| And.intro @we_fSl <| And.intro @we_fSls <| And.intro @we_fChain <| And.intro @we_fAnd <| And.intro @we_fOr <| And.intro @we_fAndV <| And.intro @we_fOrV <| And.intro @we_fIf <| And.intro @we_fIfC <| And.intro @we_fCall <| And.intro @we_fCallL <| And.intro @we_fCallT <| And.intro @we_aK <| And.intro @wc_body <| And.intro @wc_bodyL <| And.intro @ws_seq <| And.intro @we_qSeq <| And.intro @ws_nil <| And.intro @ws_bk <| And.intro @ws_ct <| And.intro @ws_ret <| And.intro @ws_retN <| And.intro @ws_retO <| And.intro @ws_if <| And.intro @ws_expr <| And.intro @ws_asgN <| And.intro @ws_asg <| And.intro @ws_par2 <| And.intro @ws_par3 <| And.intro @ws_app <| And.intro @ws_setI <| And.intro @ws_own <| And.intro @we_V0 <| And.intro @we_V1 <| And.intro @we_V2 <| And.intro @we_V3 <| And.intro @we_V4 <| And.intro @we_V5 <| And.intro @we_V6 <| And.intro @we_V7 <| And.intro @we_V8 <| And.intro @we_V9 <| And.intro @we_V10 <| And.intro @we_V11 <| And.intro @we_V12 <| And.intro @we_V13 <| And.intro @we_V14 <| And.intro @we_V15 <| And.intro @we_V16 <| And.intro @we_V17 <| And.intro @we_V18 <| And.intro @we_V19 <| And.intro @we_V20 <| And.intro @we_V21 <| And.intro @we_V22 <| And.intro @we_V23 <| And.intro @we_V24 <| @we_V25
def kP := And.intro @slotLt_nil <| And.intro @slotLt_v <| And.intro @slotLt_s <| And.intro @unM_lst <| And.intro @lst_unM <| And.intro @wif_t <| And.intro @wif_f <| And.intro @wo_some <| And.intro @wo_none <| And.intro @wo_bind <| And.intro @wo_map <| And.intro @wk_nx <| And.intro @wk_rt <| And.intro @wk_bk <| And.intro @wk_ct <| And.intro @wr_rt <| And.intro @wr_nx <| And.intro @wp_nil <| And.intro @wp_cons <| And.intro @slots_nil <| And.intro @slots_v <| And.intro @slots_s <| And.intro @kB_nil <| And.intro @kB_v <| And.intro @kB_s <| And.intro @resAll_nil <| And.intro @resAll_v <| And.intro @resAll_s <| And.intro @onlyV_nil <| And.intro @onlyV_v <| And.intro @getO_0 <| And.intro @getO_1 <| And.intro @getO_2 <| And.intro @getO_3 <| And.intro @getO_4 <| And.intro @getO_5 <| And.intro @getO_6 <| And.intro @getO_7 <| And.intro @getO_8 <| And.intro @getO_9 <| And.intro @getO_10 <| And.intro @getO_11 <| And.intro @getO_12 <| And.intro @getO_13 <| And.intro @getO_14 <| And.intro @getO_15 <| And.intro @getO_16 <| And.intro @getO_17 <| And.intro @getO_18 <| And.intro @getO_19 <| And.intro @getO_20 <| And.intro @getO_21 <| And.intro @getO_22 <| And.intro @getO_23 <| And.intro @getO_24 <| And.intro @getO_25 <| And.intro @set_0 <| And.intro @set_1 <| And.intro @set_2 <| And.intro @set_3 <| And.intro @set_4 <| And.intro @set_5 <| And.intro @set_6 <| And.intro @set_7 <| And.intro @set_8 <| And.intro @set_9 <| And.intro @set_10 <| And.intro @set_11 <| And.intro @set_12 <| And.intro @set_13 <| And.intro @set_14 <| And.intro @set_15 <| And.intro @set_16 <| And.intro @set_17 <| And.intro @set_18 <| And.intro @set_19 <| And.intro @set_20 <| And.intro @set_21 <| And.intro @set_22 <| And.intro @set_23 <| And.intro @set_24 <| And.intro @set_25 <| And.intro @at_0 <| And.intro @at_1 <| And.intro @at_2 <| And.intro @at_3 <| And.intro @at_4 <| And.intro @at_5 <| And.intro @at_6 <| And.intro @at_7 <| And.intro @at_8 <| And.intro @at_9 <| And.intro @at_10 <| And.intro @at_11 <| And.intro @at_12 <| And.intro @at_13 <| And.intro @at_14 <| And.intro @at_15 <| And.intro @at_16 <| And.intro @at_17 <| And.intro @at_18 <| And.intro @at_19 <| And.intro @at_20 <| And.intro @at_21 <| And.intro @at_22 <| And.intro @at_23 <| And.intro @at_24 <| And.intro @at_25 <| And.intro @take_1 <| And.intro @take_2 <| And.intro @take_3 <| And.intro @take_4 <| And.intro @take_5 <| And.intro @take_6 <| And.intro @take_7 <| And.intro @take_8 <| And.intro @take_9 <| And.intro @take_10 <| And.intro @take_11 <| And.intro @take_12 <| And.intro @take_13 <| And.intro @take_14 <| And.intro @take_15 <| And.intro @take_16 <| And.intro @take_17 <| And.intro @take_18 <| And.intro @take_19 <| And.intro @take_20 <| And.intro @take_21 <| And.intro @take_22 <| And.intro @take_23 <| And.intro @take_24 <| And.intro @take_25 <| And.intro @k_add_ii <| And.intro @k_add_ss <| And.intro @k_add_tt <| And.intro @k_add_ll <| And.intro @k_sub_ii <| And.intro @k_mul_ii <| And.intro @k_mul_li <| And.intro @k_div_ii <| And.intro @k_mod_ii <| And.intro @k_pow_ii <| And.intro @k_rel_ii <| And.intro @k_eq_none_none <| And.intro @k_ne_none_none <| And.intro @k_eq_none_bool <| And.intro @k_ne_none_bool <| And.intro @k_eq_none_int <| And.intro @k_ne_none_int <| And.intro @k_eq_none_str <| And.intro @k_ne_none_str <| And.intro @k_eq_none_tuple <| And.intro @k_ne_none_tuple <| And.intro @k_eq_bool_none <| And.intro @k_ne_bool_none <| And.intro @k_eq_bool_bool <| And.intro @k_ne_bool_bool <| And.intro @k_eq_bool_str <| And.intro @k_ne_bool_str <| And.intro @k_eq_bool_tuple <| And.intro @k_ne_bool_tuple <| And.intro @k_eq_int_none <| And.intro @k_ne_int_none <| And.intro @k_eq_int_int <| And.intro @k_ne_int_int <| And.intro @k_eq_int_str <| And.intro @k_ne_int_str <| And.intro @k_eq_int_tuple <| And.intro @k_ne_int_tuple <| And.intro @k_eq_str_none <| And.intro @k_ne_str_none <| And.intro @k_eq_str_bool <| And.intro @k_ne_str_bool <| And.intro @k_eq_str_int <| And.intro @k_ne_str_int <| And.intro @k_eq_str_str <| And.intro @k_ne_str_str <| And.intro @k_eq_str_tuple <| And.intro @k_ne_str_tuple <| And.intro @k_eq_tuple_none <| And.intro @k_ne_tuple_none <| And.intro @k_eq_tuple_bool <| And.intro @k_ne_tuple_bool <| And.intro @k_eq_tuple_int <| And.intro @k_ne_tuple_int <| And.intro @k_eq_tuple_str <| And.intro @k_ne_tuple_str <| And.intro @k_eq_nil_l <| And.intro @k_eq_nil_r <| And.intro @k_ne_nil_l <| And.intro @k_ne_nil_r <| And.intro @k_eqL_nil_r <| And.intro @k_eqL_nil_l <| And.intro @k_isTup_none <| And.intro @k_isTup_bool <| And.intro @k_isTup_int <| And.intro @k_isTup_str <| And.intro @k_isTup_tuple <| And.intro @k_isTup_list <| And.intro @k_isTup_dict <| And.intro @k_isStr_none <| And.intro @k_isStr_bool <| And.intro @k_isStr_int <| And.intro @k_isStr_str <| And.intro @k_isStr_tuple <| And.intro @k_isStr_list <| And.intro @k_isStr_dict <| And.intro @k_isBool_none <| And.intro @k_isBool_bool <| And.intro @k_isBool_int <| And.intro @k_isBool_str <| And.intro @k_isBool_tuple <| And.intro @k_isBool_list <| And.intro @k_isBool_dict <| And.intro @k_isInt_none <| And.intro @k_isInt_bool <| And.intro @k_isInt_int <| And.intro @k_isInt_str <| And.intro @k_isInt_tuple <| And.intro @k_isInt_list <| And.intro @k_isInt_dict <| And.intro @k_isList_none <| And.intro @k_isList_bool <| And.intro @k_isList_int <| And.intro @k_isList_str <| And.intro @k_isList_tuple <| And.intro @k_isList_list <| And.intro @k_isList_dict <| And.intro @k_isDict_none <| And.intro @k_isDict_bool <| And.intro @k_isDict_int <| And.intro @k_isDict_str <| And.intro @k_isDict_tuple <| And.intro @k_isDict_list <| And.intro @k_isDict_dict <| And.intro @k_isNon_none <| And.intro @k_isNon_bool <| And.intro @k_isNon_int <| And.intro @k_isNon_str <| And.intro @k_isNon_tuple <| And.intro @k_isNon_list <| And.intro @k_isNon_dict <| And.intro @k_oIs <| And.intro @k_oIsN <| And.intro @k_oNotN <| And.intro @k_len_s <| And.intro @k_len_t <| And.intro @k_len_l <| And.intro @k_asB <| And.intro @k_asI <| And.intro @k_tru_none <| And.intro @k_tru_bool <| And.intro @k_tru_int <| And.intro @k_tru_str <| And.intro @k_tru_tuple <| And.intro @k_tru_list <| And.intro @k_tru_dict <| And.intro @k_ix_t <| And.intro @k_ix_l <| And.intro @k_ix_s <| And.intro @k_sl_t <| And.intro @k_sl_l <| And.intro @k_sl_s <| And.intro @k_abs <| And.intro @k_max <| And.intro @k_min <| And.intro @k_int_i <| And.intro @k_int_b <| And.intro @k_tup_l <| And.intro @k_tup_t <| And.intro @k_lst_l <| And.intro @k_lst_t <| And.intro @k_all <| And.intro @k_any <| And.intro @k_itL <| And.intro @k_itT <| And.intro @k_itS <| And.intro @k_itZ_ll <| And.intro @k_itZ_tt <| And.intro @k_τN <| And.intro @k_τNil <| And.intro @k_τCons <| And.intro @k_τT <| And.intro @k_setE_nil <| And.intro @k_setE_cons <| And.intro @k_wipe_nil <| And.intro @k_wipe_cons <| And.intro @k_back_nil <| And.intro @k_back_cons <| And.intro @k_own_u <| And.intro @k_own_v <| And.intro @k_own_o <| And.intro @k_allB_nil <| And.intro @k_allB_cons <| And.intro @k_inT <| And.intro @k_ixT <| And.intro @k_rng1 <| And.intro @k_rng2 <| And.intro @k_rep_1 <| And.intro @k_rep_2 <| And.intro @k_rep_3 <| And.intro @k_rep_4 <| And.intro @k_rep_5 <| And.intro @k_rep_6 <| And.intro @k_rep_7 <| And.intro @k_rep_8 <| And.intro @k_rep_9 <| And.intro @k_rep_10 <| And.intro @k_rep_11 <| And.intro @k_rep_12 <| And.intro @k_rep_13 <| And.intro @k_rep_14 <| And.intro @k_rep_15 <| And.intro @k_rep_16 <| And.intro @k_rep_17 <| And.intro @k_rep_18 <| And.intro @k_rep_19 <| And.intro @k_rep_20 <| And.intro @k_rep_0 <| And.intro @k_atI_0 <| And.intro @k_atI_1 <| And.intro @k_atI_2 <| And.intro @k_atI_3 <| And.intro @k_atI_4 <| And.intro @k_atI_5 <| And.intro @k_atI_6 <| And.intro @k_atI_7 <| And.intro @k_atI_8 <| And.intro @k_atI_9 <| And.intro @k_atI_10 <| And.intro @k_atI_11 <| And.intro @k_atI_12 <| And.intro @k_atI_13 <| And.intro @k_ixN_0 <| And.intro @k_ixN_1 <| And.intro @k_ixN_2 <| And.intro @k_ixN_3 <| And.intro @k_ixN_4 <| And.intro @k_ixN_5 <| And.intro @k_ixN_6 <| And.intro @k_ixN_7 <| And.intro @k_b2i_t <| And.intro @k_b2i_f <| And.intro @k_flat_c <| And.intro @k_flat_n <| And.intro @k_in_t <| And.intro @k_in_l <| And.intro @k_nin_t <| And.intro @k_nin_l <| And.intro @k_flat_none <| And.intro @k_flat_bool <| And.intro @k_flat_int <| And.intro @k_flat_str <| And.intro @k_flat_tuple <| And.intro @k_flat_list <| And.intro @k_flat_dict <| And.intro @k_eqF_none_none <| And.intro @k_eqF_none_int <| And.intro @k_eqF_none_str <| And.intro @k_eqF_none_bool <| And.intro @k_eqF_int_none <| And.intro @k_eqF_int_int <| And.intro @k_eqF_int_str <| And.intro @k_eqF_str_none <| And.intro @k_eqF_str_int <| And.intro @k_eqF_str_str <| And.intro @k_eqF_str_bool <| And.intro @k_eqF_bool_none <| And.intro @k_eqF_bool_str <| And.intro @k_eqF_bool_bool <| And.intro @k_some_bind <| And.intro @k_some_map <| And.intro @k_dec_b <| And.intro @k_wif_same <| And.intro @k_nodup_1 <| And.intro @k_nodup_2 <| And.intro @k_nodup_3 <| And.intro @k_nodup_4 <| And.intro @k_ofS <| And.intro @k_ne_dec <| And.intro @wo_ite <| And.intro @k_outs_nil <| And.intro @k_outs_cons <| And.intro @Option.getD_some.{0} <| And.intro @List.cons_append.{0} <| And.intro @List.nil_append.{0} <| And.intro @List.append_nil.{0} <| And.intro @List.length_cons.{0} <| And.intro @List.length_nil.{0} <| And.intro @lg7 <| And.intro @lg7919 <| And.intro @lg104729 <| And.intro @lg60 <| And.intro @List.map_cons.{0,0} <| And.intro @List.map_nil.{0,0} <| And.intro @List.any_cons.{0} <| And.intro @List.any_nil.{0} <| And.intro @List.all_cons.{0} <| And.intro @List.all_nil.{0} <| And.intro @Bool.or_false <| And.intro @Bool.false_or <| And.intro @Bool.or_true <| And.intro @Bool.true_or <| And.intro @Bool.and_true <| And.intro @Bool.true_and <| And.intro @Bool.false_and <| And.intro @Bool.and_false <| And.intro @Bool.not_true <| And.intro @Bool.not_false <| And.intro @decide_true <| And.intro @decide_false <| And.intro @and_true <| And.intro @true_and <| And.intro @or_true <| And.intro @true_or <| And.intro @or_false <| And.intro @false_or <| And.intro @or_self <| And.intro @and_self <| And.intro @and_false <| And.intro @false_and <| And.intro @not_true_eq_false <| And.intro @not_false_eq_true <| And.intro @if_true.{1} <| And.intro @if_false.{1} <| And.intro @Option.some.injEq.{0} <| And.intro @List.nodup_nil.{0} <| And.intro @eq_self.{1} <| And.intro @PyData.int.injEq <| And.intro @PyData.str.injEq <| And.intro @PyData.bool.injEq <| And.intro @List.isEmpty_cons.{0} <| And.intro @List.isEmpty_nil.{0} <| And.intro @Option.isSome_some.{0} <| And.intro @Option.isSome_none.{0} <| And.intro @id_eq.{1} <| And.intro @Nat.zero_add <| And.intro @Int.add_sub_cancel <| And.intro @Int.toNat_natCast <| And.intro @Int.cast_ofNat_Int <| And.intro @Int.natCast_add <| And.intro @Int.natAbs_zero <| And.intro @ne_eq.{1} <| And.intro @ge_iff_le.{0} <| And.intro @gt_iff_lt.{0} <| @List.not_mem_nil.{0}
end DL

namespace DL
open PySem PySem.Spec PyProof.Rows L2
def t_WITHIN : List (Str × PyData) := [(("box" : Str), .int 1), (("pair" : Str), .int 2)]
def t_EXPRESSIONS : List (Str × PyData) := [(("num" : Str), .tuple [.str ("num" : Str)]), (("name" : Str), .tuple [.str ("name" : Str)]), (("op" : Str), .tuple [.str ("sign" : Str), .str ("expression" : Str), .str ("expression" : Str)]), (("box" : Str), .tuple [.str ("expression" : Str)]), (("unbox" : Str), .tuple [.str ("expression" : Str)]), (("see" : Str), .tuple [.str ("name" : Str)]), (("pair" : Str), .tuple [.str ("expression" : Str), .str ("expression" : Str)]), (("call" : Str), .tuple [.str ("name" : Str), .str ("kind" : Str), .str ("arguments" : Str)]), (("loose" : Str), .tuple [.str ("expression" : Str)]), (("peek" : Str), .tuple [.str ("name" : Str)])]
def t_STATEMENTS : List (Str × PyData) := [(("let" : Str), .tuple [.str ("name" : Str), .str ("expression" : Str)]), (("split" : Str), .tuple [.str ("name" : Str), .str ("name" : Str), .str ("expression" : Str)]), (("set" : Str), .tuple [.str ("name" : Str), .str ("expression" : Str)]), (("put" : Str), .tuple [.str ("name" : Str), .str ("expression" : Str)]), (("say" : Str), .tuple [.str ("expression" : Str)]), (("do" : Str), .tuple [.str ("call" : Str)]), (("drop" : Str), .tuple [.str ("name" : Str)]), (("give" : Str), .tuple [.str ("expression" : Str)]), (("fail" : Str), .tuple [.str ("num" : Str)]), (("poke" : Str), .tuple [.str ("name" : Str), .str ("expression" : Str)]), (("free" : Str), .tuple [.str ("name" : Str)]), (("if" : Str), .tuple [.str ("expression" : Str), .str ("block" : Str), .str ("block" : Str)]), (("while" : Str), .tuple [.str ("expression" : Str), .str ("block" : Str)]), (("look" : Str), .tuple [.str ("name" : Str), .str ("name" : Str), .str ("block" : Str)]), (("alter" : Str), .tuple [.str ("name" : Str), .str ("name" : Str), .str ("block" : Str)]), (("fence" : Str), .tuple [.str ("name" : Str), .str ("block" : Str)])]
structure Fs where
  is_name : Fn
  is_whole : Fn
  is_num : Fn
  is_sign : Fn
  is_row_of : Fn
  is_mode : Fn
  first_word : Fn
  is_kind_within : Fn
  is_kind : Fn
  is_argument : Fn
  are_arguments : Fn
  is_part : Fn
  is_expression : Fn
  is_statement : Fn
  is_block : Fn
  is_param : Fn
  is_body : Fn
  is_program : Fn
  law_hand : FnL
  law_take : Fn
  law_of : Fn
  law_keywords : Fn
  law_name : Fn
  law_kind : Fn
  law_num : Fn
  law_arguments : Fn
  law_expression : Fn
  law_statement : Fn
  law_block : Fn
  law_odd : Fn
  law_spoilt : Fn
  law_is_name : Fn
  law_is_num : Fn
  law_is_kind : Fn
  law_is_argument : Fn
  law_is_expression : Fn
  law_is_statement : Fn
  law_is_block : Fn
  law : Fn
def Fs.bot : Fs := ⟨fun _ => none, fun _ => none, fun _ => none, fun _ => none, fun _ => none, fun _ => none, fun _ => none, fun _ => none, fun _ => none, fun _ => none, fun _ => none, fun _ => none, fun _ => none, fun _ => none, fun _ => none, fun _ => none, fun _ => none, fun _ => none, fun _ => none, fun _ => none, fun _ => none, fun _ => none, fun _ => none, fun _ => none, fun _ => none, fun _ => none, fun _ => none, fun _ => none, fun _ => none, fun _ => none, fun _ => none, fun _ => none, fun _ => none, fun _ => none, fun _ => none, fun _ => none, fun _ => none, fun _ => none, fun _ => none⟩
/-- is_name(thing); slots 0:thing 1:sign; changed in place [] -/
def b_is_name (F : Fs) : Sf :=
  (sSeq (sIf (fOr (f1 (fun c => some (!c)) (f1 truD (f1 (oIs isStr) (fV 0)))) (fOr (f1 (fun c => some (!c)) (f1 asB (fChain (oRel fun i j => decide (i ≤ j)) (oRel fun i j => decide (i ≤ j)) (fC (.int 1)) (fB oLen (aV (fV 0) aNil)) (fC (.int 6))))) (f1 asB (f2 oIn (fV 0) (fC (.tuple [.str ("body" : Str), .str ("of" : Str), .str ("T" : Str), .str ("take" : Str), .str ("look" : Str), .str ("alter" : Str), .str ("gives" : Str), .str ("end" : Str), .str ("let" : Str), .str ("split" : Str), .str ("set" : Str), .str ("put" : Str), .str ("say" : Str), .str ("do" : Str), .str ("drop" : Str), .str ("give" : Str), .str ("fail" : Str), .str ("poke" : Str), .str ("free" : Str), .str ("if" : Str), .str ("else" : Str), .str ("while" : Str), .str ("as" : Str), .str ("fence" : Str), .str ("num" : Str), .str ("box" : Str), .str ("pair" : Str), .str ("unbox" : Str), .str ("see" : Str), .str ("loose" : Str), .str ("peek" : Str), .str ("call" : Str)])))))) (sRet (fC (.bool false))) sNil)
    (sRet (fB oAll (aV (vL (fLc [1] (f1 itS (fV 0)) (τN 1) gYes (f2 oIn (fV 1) (fC (.str ("abcdefghijklmnopqrstuvwxyz" : Str)))))) aNil))))
/-- is_whole(thing); slots 0:thing; changed in place [] -/
def b_is_whole (F : Fs) : Sf :=
  (sRet (fAndV (f1 (oIs isInt) (fV 0)) (f1 (fun x => (truD x).map fun k => .bool (!k)) (f1 (oIs isBool) (fV 0)))))
/-- is_num(thing); slots 0:thing; changed in place [] -/
def b_is_num (F : Fs) : Sf :=
  (sRet (fAndV (fCall [] F.is_whole (aV (fV 0) aNil)) (fChain (oRel fun i j => decide (i ≤ j)) (oRel fun i j => decide (i ≤ j)) (f2 oSub (fC (.int 0)) (fC (.int 1000000000))) (fV 0) (fC (.int 1000000000)))))
/-- is_sign(thing); slots 0:thing; changed in place [] -/
def b_is_sign (F : Fs) : Sf :=
  (sRet (fAndV (f1 (oIs isStr) (fV 0)) (f2 oIn (fV 0) (fC (.tuple [.str ("+" : Str), .str ("-" : Str), .str ("*" : Str), .str ("/" : Str), .str ("<" : Str), .str ("=" : Str)])))))
/-- is_row_of(thing, many); slots 0:thing 1:many; changed in place [] -/
def b_is_row_of (F : Fs) : Sf :=
  (sRet (fAndV (f1 (oIs isTup) (fV 0)) (f2 oEq (fB oLen (aV (fV 0) aNil)) (fV 1))))
/-- is_mode(thing); slots 0:thing; changed in place [] -/
def b_is_mode (F : Fs) : Sf :=
  (sRet (fAndV (f1 (oIs isStr) (fV 0)) (f2 oIn (fV 0) (fC (.tuple [.str ("take" : Str), .str ("look" : Str), .str ("alter" : Str)])))))
/-- first_word(thing); slots 0:thing; changed in place [] -/
def b_first_word (F : Fs) : Sf :=
  (sSeq (sIf (fOr (f1 (fun c => some (!c)) (f1 truD (f1 (oIs isTup) (fV 0)))) (fOr (f1 asB (f2 oEq (fV 0) (fDisp .tuple aNil))) (f1 (fun c => some (!c)) (f1 truD (f1 (oIs isStr) (f2 oIx (fV 0) (fC (.int 0)))))))) (sRet (fC (.str ("" : Str)))) sNil)
    (sRet (f2 oIx (fV 0) (fC (.int 0)))))
/-- is_kind_within(thing, deep); slots 0:thing 1:deep 2:word 3:kind; changed in place [] -/
def b_is_kind_within (F : Fs) : Sf :=
  (sSeq (sIf (f1 asB (f2 oEq (fV 1) (fC (.int 0)))) (sRet (fC (.bool false))) sNil)
    (sSeq (sIf (f1 truD (f1 (oIs isStr) (fV 0))) (sRet (f2 oIn (fV 0) (fDisp .tuple (aV (fC (.str ("num" : Str))) (aV (fC (.str ("T" : Str))) aNil))))) sNil)
    (sSeq (sAsg (fCall [] F.first_word (aV (fV 0) aNil)) (τN 2))
    (sSeq (sIf (fOr (f1 asB (f1 (oInT t_WITHIN not) (fV 2))) (f1 asB (f2 oNe (fB oLen (aV (fV 0) aNil)) (f2 oAdd (fC (.int 1)) (f1 (oIxT t_WITHIN) (fV 2)))))) (sRet (fC (.bool false))) sNil)
    (sRet (fB oAll (aV (vL (fLc [3] (f1 itT (fSl (fV 0) (f1 asI (fC (.int 1))) pNo)) (τN 3) gYes (fCall [] F.is_kind_within (aV (fV 3) (aV (f2 oSub (fV 1) (fC (.int 1))) aNil))))) aNil)))))))
/-- is_kind(thing); slots 0:thing; changed in place [] -/
def b_is_kind (F : Fs) : Sf :=
  (sRet (fCall [] F.is_kind_within (aV (fV 0) (aV (fC (.int 6)) aNil))))
/-- is_argument(thing, deep); slots 0:thing 1:deep; changed in place [] -/
def b_is_argument (F : Fs) : Sf :=
  (sSeq (sIf (fOr (f1 (fun c => some (!c)) (f1 truD (fCall [] F.is_row_of (aV (fV 0) (aV (fC (.int 2)) aNil))))) (f1 (fun c => some (!c)) (f1 truD (fCall [] F.is_mode (aV (f2 oIx (fV 0) (fC (.int 0))) aNil))))) (sRet (fC (.bool false))) sNil)
    (sRet (fIf (f1 asB (f2 oEq (f2 oIx (fV 0) (fC (.int 0))) (fC (.str ("take" : Str))))) (fCall [] F.is_expression (aV (f2 oIx (fV 0) (fC (.int 1))) (aV (fV 1) aNil))) (fCall [] F.is_name (aV (f2 oIx (fV 0) (fC (.int 1))) aNil)))))
/-- are_arguments(thing, deep); slots 0:thing 1:deep 2:argument; changed in place [] -/
def b_are_arguments (F : Fs) : Sf :=
  (sSeq (sIf (fOr (f1 (fun c => some (!c)) (f1 truD (f1 (oIs isTup) (fV 0)))) (f1 asB (f2 (oRel fun i j => decide (j < i)) (fB oLen (aV (fV 0) aNil)) (fC (.int 4))))) (sRet (fC (.bool false))) sNil)
    (sRet (fB oAll (aV (vL (fLc [2] (f1 itT (fV 0)) (τN 2) gYes (fCall [] F.is_argument (aV (fV 2) (aV (fV 1) aNil))))) aNil))))
/-- is_part(form, thing, deep); slots 0:form 1:thing 2:deep; changed in place [] -/
def b_is_part (F : Fs) : Sf :=
  (sSeq (sIf (f1 asB (f2 oEq (fV 0) (fC (.str ("expression" : Str))))) (sRet (fCall [] F.is_expression (aV (fV 1) (aV (fV 2) aNil)))) sNil)
    (sSeq (sIf (f1 asB (f2 oEq (fV 0) (fC (.str ("call" : Str))))) (sRet (fAndV (fCall [] F.is_expression (aV (fV 1) (aV (fV 2) aNil))) (f2 oEq (f2 oIx (fV 1) (fC (.int 0))) (fC (.str ("call" : Str)))))) sNil)
    (sSeq (sIf (f1 asB (f2 oEq (fV 0) (fC (.str ("arguments" : Str))))) (sRet (fCall [] F.are_arguments (aV (fV 1) (aV (fV 2) aNil)))) sNil)
    (sSeq (sIf (f1 asB (f2 oEq (fV 0) (fC (.str ("kind" : Str))))) (sRet (fOrV (f1 oIsN (fV 1)) (fCall [] F.is_kind (aV (fV 1) aNil)))) sNil)
    (sSeq (sIf (f1 asB (f2 oEq (fV 0) (fC (.str ("sign" : Str))))) (sRet (fCall [] F.is_sign (aV (fV 1) aNil))) sNil)
    (sRet (fIf (f1 asB (f2 oEq (fV 0) (fC (.str ("num" : Str))))) (fCall [] F.is_num (aV (fV 1) aNil)) (fCall [] F.is_name (aV (fV 1) aNil)))))))))
/-- is_expression(thing, deep); slots 0:thing 1:deep 2:word 3:form 4:part; changed in place [] -/
def b_is_expression (F : Fs) : Sf :=
  (sSeq (sAsg (fCall [] F.first_word (aV (fV 0) aNil)) (τN 2))
    (sSeq (sIf (fOr (f1 asB (f2 oEq (fV 1) (fC (.int 0)))) (fOr (f1 asB (f1 (oInT t_EXPRESSIONS not) (fV 2))) (f1 asB (f2 oNe (fB oLen (aV (fV 0) aNil)) (f2 oAdd (fC (.int 1)) (fB oLen (aV (f1 (oIxT t_EXPRESSIONS) (fV 2)) aNil))))))) (sRet (fC (.bool false))) sNil)
    (sRet (fB oAll (aV (vL (fLc [3, 4] (fZ itZ (aV (f1 (oIxT t_EXPRESSIONS) (fV 2)) (aV (fSl (fV 0) (f1 asI (fC (.int 1))) pNo) aNil))) (τT 2 (τCons (τN 3) (τCons (τN 4) τNil))) gYes (fCall [] F.is_part (aV (fV 3) (aV (fV 4) (aV (f2 oSub (fV 1) (fC (.int 1))) aNil)))))) aNil)))))
/-- is_statement(thing, deep); slots 0:thing 1:deep 2:word 3:form 4:part; changed in place [] -/
def b_is_statement (F : Fs) : Sf :=
  (sSeq (sAsg (fCall [] F.first_word (aV (fV 0) aNil)) (τN 2))
    (sSeq (sIf (fOr (f1 asB (f1 (oInT t_STATEMENTS not) (fV 2))) (f1 asB (f2 oNe (fB oLen (aV (fV 0) aNil)) (f2 oAdd (fC (.int 1)) (fB oLen (aV (f1 (oIxT t_STATEMENTS) (fV 2)) aNil)))))) (sRet (fC (.bool false))) sNil)
    (sSeq (sFor (fZ itZ (aV (f1 (oIxT t_STATEMENTS) (fV 2)) (aV (fSl (fV 0) (f1 asI (fC (.int 1))) pNo) aNil))) (τT 2 (τCons (τN 3) (τCons (τN 4) τNil))) (sIf (f1 (fun c => some (!c)) (fIfC (f1 asB (f2 oEq (fV 3) (fC (.str ("block" : Str))))) (f1 truD (fCall [] F.is_block (aV (fV 4) (aV (fV 1) aNil)))) (f1 truD (fCall [] F.is_part (aV (fV 3) (aV (fV 4) (aV (fC (.int 5)) aNil))))))) (sRet (fC (.bool false))) sNil))
    (sRet (fC (.bool true))))))
/-- is_block(thing, deep); slots 0:thing 1:deep 2:statement; changed in place [] -/
def b_is_block (F : Fs) : Sf :=
  (sSeq (sIf (fOr (f1 asB (f2 oEq (fV 1) (fC (.int 0)))) (f1 (fun c => some (!c)) (f1 truD (f1 (oIs isTup) (fV 0))))) (sRet (fC (.bool false))) sNil)
    (sRet (fB oAll (aV (vL (fLc [2] (f1 itT (fV 0)) (τN 2) gYes (fCall [] F.is_statement (aV (fV 2) (aV (f2 oSub (fV 1) (fC (.int 1))) aNil))))) aNil))))
/-- is_param(thing); slots 0:thing; changed in place [] -/
def b_is_param (F : Fs) : Sf :=
  (sRet (fAndV (fCall [] F.is_row_of (aV (fV 0) (aV (fC (.int 3)) aNil))) (fAndV (fCall [] F.is_mode (aV (f2 oIx (fV 0) (fC (.int 0))) aNil)) (fAndV (fCall [] F.is_name (aV (f2 oIx (fV 0) (fC (.int 1))) aNil)) (fCall [] F.is_kind (aV (f2 oIx (fV 0) (fC (.int 2))) aNil))))))
/-- is_body(thing); slots 0:thing 1:name 2:letter 3:params 4:gives 5:block 6:param; changed in place [] -/
def b_is_body (F : Fs) : Sf :=
  (sSeq (sIf (f1 (fun c => some (!c)) (f1 truD (fCall [] F.is_row_of (aV (fV 0) (aV (fC (.int 5)) aNil))))) (sRet (fC (.bool false))) sNil)
    (sSeq (sAsg (fV 0) (τT 5 (τCons (τN 1) (τCons (τN 2) (τCons (τN 3) (τCons (τN 4) (τCons (τN 5) τNil)))))))
    (sSeq (sIf (fOr (f1 (fun c => some (!c)) (f1 truD (fCall [] F.is_name (aV (fV 1) aNil)))) (fOr (f1 (fun c => some (!c)) (f1 truD (f1 (oIs isBool) (fV 2)))) (f1 (fun c => some (!c)) (f1 truD (f1 (oIs isTup) (fV 3)))))) (sRet (fC (.bool false))) sNil)
    (sSeq (sIf (fOr (f1 asB (f2 (oRel fun i j => decide (j < i)) (fB oLen (aV (fV 3) aNil)) (fC (.int 4)))) (f1 (fun c => some (!c)) (f1 truD (fB oAll (aV (vL (fLc [6] (f1 itT (fV 3)) (τN 6) gYes (fCall [] F.is_param (aV (fV 6) aNil)))) aNil))))) (sRet (fC (.bool false))) sNil)
    (sRet (fAndV (fCall [] F.is_kind (aV (fV 4) aNil)) (fCall [] F.is_block (aV (fV 5) (aV (fC (.int 5)) aNil)))))))))
/-- is_program(thing); slots 0:thing 1:body; changed in place [] -/
def b_is_program (F : Fs) : Sf :=
  (sRet (fAndV (f1 (oIs isTup) (fV 0)) (fAndV (f2 (oRel fun i j => decide (j < i)) (fB oLen (aV (fV 0) aNil)) (fC (.int 0))) (fB oAll (aV (vL (fLc [1] (f1 itT (fV 0)) (τN 1) gYes (fCall [] F.is_body (aV (fV 1) aNil)))) aNil)))))
/-- _law_hand(_law_script, _law_k); slots 0:_law_script 1:_law_k 2:_law_cell 3:_law_great; changed in place [] -/
def b_law_hand (F : Fs) : Lf :=
  (qSeq (sAsg (fIf (f1 asB (f2 (oRel fun i j => decide (i < j)) (fV 1) (fB oLen (aV (fV 0) aNil)))) (f2 oIx (fV 0) (fV 1)) (fC (.int 0))) (τN 2))
    (qSeq (sAsg (f2 oMul (f2 oMod (fB oAbs (aV (fV 2) aNil)) (f2 oMul (f2 oPow (fC (.int 10)) (fC (.int 60))) (f2 oPow (fC (.int 10)) (fC (.int 60))))) (fB oInt (aV (f2 (oRel fun i j => decide (j ≤ i)) (fB oAbs (aV (fV 2) aNil)) (f2 oPow (fC (.int 10)) (fC (.int 18)))) aNil))) (τN 3))
    (fLst1 (aV (fV 3) (aV (f2 oAdd (f2 oAdd (f2 oMod (fV 2) (fC (.int 2305843009213693951))) (f2 oMul (fC (.int 104729)) (fV 1))) (fC (.int 7))) (aV (fC (.int 0)) aNil))))))
/-- _law_take(_law_hand_here, _law_many); slots 0:_law_hand_here 1:_law_many 2:_law_digit 3:_law_primes 4:_law_prime 5:_law_drawn; changed in place [0] -/
def b_law_take (F : Fs) : Sf :=
  (sSeq (sIf (f1 asB (f2 (oRel fun i j => decide (j < i)) (f2l oIx 0 (fC (.int 0))) (fC (.int 0)))) (sSeq (sAsg (f2 oMod (f2l oIx 0 (fC (.int 0))) (fV 1)) (τN 2))
    (sSeq (sSetI 0 (fC (.int 0)) (f2 oDiv (f2l oIx 0 (fC (.int 0))) (fV 1)))
    (sRet (fV 2)))) sNil)
    (sSeq (sSetI 0 (fC (.int 2)) (f2 oAdd (f2l oIx 0 (fC (.int 2))) (fC (.int 1))))
    (sSeq (sAsg (fDisp .list (aV (fC (.int 2147483647)) (aV (fC (.int 2147483629)) (aV (fC (.int 2147483587)) (aV (fC (.int 2147483579)) (aV (fC (.int 2147483563)) (aV (fC (.int 2147483549)) (aV (fC (.int 2147483543)) (aV (fC (.int 2147483497)) aNil))))))))) (τN 3))
    (sSeq (sAsg (f2 oIx (fV 3) (f2 oMod (f2l oIx 0 (fC (.int 2))) (fC (.int 8)))) (τN 4))
    (sSeq (sAsg (f2 oMod (f2 oPow (f2 oAdd (f2l oIx 0 (fC (.int 1))) (f2 oMul (fC (.int 7919)) (f2l oIx 0 (fC (.int 2))))) (fC (.int 5))) (fV 4)) (τN 5))
    (sRet (f2 oMod (f2 oDiv (f2 oMod (f2 oMul (fV 5) (f2 oAdd (f2 oMod (fV 5) (fC (.int 1009))) (f2l oIx 0 (fC (.int 2))))) (fV 4)) (fC (.int 7))) (fV 1))))))))
/-- _law_of(_law_hand_here, _law_some); slots 0:_law_hand_here 1:_law_some; changed in place [0] -/
def b_law_of (F : Fs) : Sf :=
  (sRet (f2 oIx (fV 1) (fCall [0] F.law_take (aS 0 (aV (fB oLen (aV (fV 1) aNil)) aNil)))))
/-- _law_keywords(); slots 0:_law_some; changed in place [] -/
def b_law_keywords (F : Fs) : Sf :=
  (sSeq (sAsg (fDisp .list (aV (fC (.str ("body" : Str))) (aV (fC (.str ("of" : Str))) (aV (fC (.str ("T" : Str))) (aV (fC (.str ("take" : Str))) (aV (fC (.str ("look" : Str))) (aV (fC (.str ("alter" : Str))) (aV (fC (.str ("gives" : Str))) (aV (fC (.str ("end" : Str))) (aV (fC (.str ("let" : Str))) (aV (fC (.str ("split" : Str))) (aV (fC (.str ("set" : Str))) (aV (fC (.str ("put" : Str))) (aV (fC (.str ("say" : Str))) aNil)))))))))))))) (τN 0))
    (sSeq (sAsg (f2 oAdd (fV 0) (fDisp .list (aV (fC (.str ("do" : Str))) (aV (fC (.str ("drop" : Str))) (aV (fC (.str ("give" : Str))) (aV (fC (.str ("fail" : Str))) (aV (fC (.str ("poke" : Str))) (aV (fC (.str ("free" : Str))) (aV (fC (.str ("if" : Str))) (aV (fC (.str ("else" : Str))) (aV (fC (.str ("while" : Str))) (aV (fC (.str ("as" : Str))) (aV (fC (.str ("fence" : Str))) (aV (fC (.str ("num" : Str))) aNil)))))))))))))) (τN 0))
    (sRet (f2 oAdd (fV 0) (fDisp .list (aV (fC (.str ("box" : Str))) (aV (fC (.str ("pair" : Str))) (aV (fC (.str ("unbox" : Str))) (aV (fC (.str ("see" : Str))) (aV (fC (.str ("loose" : Str))) (aV (fC (.str ("peek" : Str))) (aV (fC (.str ("call" : Str))) aNil))))))))))))
/-- _law_name(_law_hand_here); slots 0:_law_hand_here 1:_law_long 2:_law_name_here 3:_law_k; changed in place [0] -/
def b_law_name (F : Fs) : Sf :=
  (sSeq (sAsg (fCall [0] F.law_of (aS 0 (aV (fDisp .list (aV (fC (.int 1)) (aV (fC (.int 1)) (aV (fC (.int 2)) (aV (fC (.int 3)) (aV (fC (.int 5)) (aV (fC (.int 6)) aNil))))))) aNil))) (τN 1))
    (sSeq (sAsg (fB oJoin (aV (fC (.str ("" : Str))) (aV (vL (fLc [3] (fB itR1 (aV (fV 1) aNil)) (τN 3) gYes (fCall [0] F.law_of (aS 0 (aV (fC (.str ("abcdefghijklmnopqrstuvwxyz" : Str))) aNil))))) aNil))) (τN 2))
    (sRet (fIf (f1 asB (f2 oNotIn (fV 2) (fCall [] F.law_keywords aNil))) (fV 2) (f2 oAdd (fSl (fV 2) pNo (f1 asI (fC (.int 5)))) (fC (.str ("q" : Str))))))))
/-- _law_kind(_law_hand_here, _law_deep); slots 0:_law_hand_here 1:_law_deep 2:_law_pick 3:_law_leaf 4:_law_inner; changed in place [0] -/
def b_law_kind (F : Fs) : Sf :=
  (sSeq (sPar2 2 3 (aV (fCall [0] F.law_take (aS 0 (aV (fC (.int 5)) aNil))) (aV (fCall [0] F.law_of (aS 0 (aV (fDisp .list (aV (fC (.str ("num" : Str))) (aV (fC (.str ("num" : Str))) (aV (fC (.str ("T" : Str))) aNil)))) aNil))) aNil)))
    (sSeq (sIf (fOr (f1 asB (f2 oEq (fV 1) (fC (.int 1)))) (f1 asB (f2 oEq (fV 2) (fC (.int 0))))) (sRet (fV 3)) sNil)
    (sSeq (sAsg (fCall [0] F.law_kind (aS 0 (aV (f2 oSub (fV 1) (fC (.int 1))) aNil))) (τN 4))
    (sRet (f2 oIx (fDisp .list (aV (fDisp .tuple (aV (fC (.str ("box" : Str))) (aV (fV 4) aNil))) (aV (fDisp .tuple (aV (fC (.str ("box" : Str))) (aV (fV 4) aNil))) (aV (fDisp .tuple (aV (fC (.str ("pair" : Str))) (aV (fV 3) (aV (fV 4) aNil)))) (aV (fDisp .tuple (aV (fC (.str ("pair" : Str))) (aV (fV 4) (aV (fV 3) aNil)))) aNil))))) (f2 oSub (fV 2) (fC (.int 1))))))))
/-- _law_num(_law_hand_here); slots 0:_law_hand_here 1:_law_any_one; changed in place [0] -/
def b_law_num (F : Fs) : Sf :=
  (sSeq (sAsg (fCall [0] F.law_take (aS 0 (aV (f2 oPow (fC (.int 10)) (fC (.int 9))) aNil))) (τN 1))
    (sRet (fCall [0] F.law_of (aS 0 (aV (fDisp .list (aV (fC (.int 0)) (aV (fC (.int 1)) (aV (fC (.int 2)) (aV (f2 oSub (fC (.int 0)) (fC (.int 1))) (aV (f2 oPow (fC (.int 10)) (fC (.int 9))) (aV (f2 oSub (fC (.int 0)) (f2 oPow (fC (.int 10)) (fC (.int 9)))) (aV (fV 1) (aV (f2 oSub (fC (.int 0)) (fV 1)) aNil))))))))) aNil)))))
/-- _law_arguments(_law_hand_here, _law_deep, _law_room); slots 0:_law_hand_here 1:_law_deep 2:_law_room 3:_law_some 4:_law_k 5:_law_mode 6:_law_what; changed in place [0, 2] -/
def b_law_arguments (F : Fs) : Sf :=
  (sSeq (sOwn 3 (fLst1 aNil))
    (sSeq (sFor (fB itR1 (aV (fCall [0] F.law_take (aS 0 (aV (fC (.int 5)) aNil))) aNil)) (τN 4) (sSeq (sPar2 5 6 (aV (fCall [0] F.law_of (aS 0 (aV (fDisp .list (aV (fC (.str ("take" : Str))) (aV (fC (.str ("take" : Str))) (aV (fC (.str ("look" : Str))) (aV (fC (.str ("alter" : Str))) aNil))))) aNil))) (aV (fCall [0] F.law_name (aS 0 aNil)) aNil)))
    (sSeq (sIf (f1 asB (f2 oEq (fV 5) (fC (.str ("take" : Str))))) (sAsg (fCall [0, 2] F.law_expression (aS 0 (aV (fV 1) (aS 2 aNil)))) (τN 6)) sNil)
    (sApp 3 (fDisp .tuple (aV (fV 5) (aV (fV 6) aNil)))))))
    (sRet (fB oTup (aS 3 aNil)))))
/-- _law_expression(_law_hand_here, _law_deep, _law_room); slots 0:_law_hand_here 1:_law_deep 2:_law_room 3:_law_pick 4:_law_name_here 5:_law_some 6:_law_sign 7:_law_one 8:_law_put; changed in place [0, 2] -/
def b_law_expression (F : Fs) : Sf :=
  (sSeq (sSetI 2 (fC (.int 0)) (f2 oSub (f2l oIx 2 (fC (.int 0))) (fC (.int 1))))
    (sSeq (sPar2 3 4 (aV (fCall [0] F.law_take (aS 0 (aV (fC (.int 14)) aNil))) (aV (fCall [0] F.law_name (aS 0 aNil)) aNil)))
    (sSeq (sIf (fOr (f1 asB (f2 (oRel fun i j => decide (i < j)) (fV 3) (fC (.int 5)))) (fOr (f1 asB (f2 oEq (fV 1) (fC (.int 1)))) (f1 asB (f2 (oRel fun i j => decide (i < j)) (f2l oIx 2 (fC (.int 0))) (fC (.int 1)))))) (sSeq (sAsg (fDisp .list (aV (fDisp .tuple (aV (fC (.str ("num" : Str))) (aV (fCall [0] F.law_num (aS 0 aNil)) aNil))) (aV (fDisp .tuple (aV (fC (.str ("name" : Str))) (aV (fV 4) aNil))) (aV (fDisp .tuple (aV (fC (.str ("see" : Str))) (aV (fV 4) aNil))) (aV (fDisp .tuple (aV (fC (.str ("peek" : Str))) (aV (fV 4) aNil))) aNil))))) (τN 5))
    (sRet (f2 oIx (f2 oAdd (fV 5) (fDisp .list (aV (fDisp .tuple (aV (fC (.str ("call" : Str))) (aV (fV 4) (aV (fC .none) (aV (fDisp .tuple aNil) aNil))))) aNil))) (f2 oMod (fV 3) (fC (.int 5)))))) sNil)
    (sSeq (sIf (f1 asB (f2 (oRel fun i j => decide (i < j)) (fV 3) (fC (.int 8)))) (sSeq (sAsg (fCall [0] F.law_of (aS 0 (aV (fC (.str ("+-*/<=" : Str))) aNil))) (τN 6))
    (sSeq (sAsg (fCall [0, 2] F.law_expression (aS 0 (aV (f2 oSub (fV 1) (fC (.int 1))) (aS 2 aNil)))) (τN 7))
    (sRet (fDisp .tuple (aV (fC (.str ("op" : Str))) (aV (fV 6) (aV (fV 7) (aV (fCall [0, 2] F.law_expression (aS 0 (aV (f2 oSub (fV 1) (fC (.int 1))) (aS 2 aNil)))) aNil)))))))) sNil)
    (sSeq (sIf (f1 asB (f2 (oRel fun i j => decide (i < j)) (fV 3) (fC (.int 11)))) (sRet (fDisp .tuple (aV (f2 oIx (fDisp .list (aV (fC (.str ("box" : Str))) (aV (fC (.str ("unbox" : Str))) (aV (fC (.str ("loose" : Str))) aNil)))) (f2 oSub (fV 3) (fC (.int 8)))) (aV (fCall [0, 2] F.law_expression (aS 0 (aV (f2 oSub (fV 1) (fC (.int 1))) (aS 2 aNil)))) aNil)))) sNil)
    (sSeq (sIf (f1 asB (f2 oEq (fV 3) (fC (.int 11)))) (sSeq (sAsg (fCall [0, 2] F.law_expression (aS 0 (aV (f2 oSub (fV 1) (fC (.int 1))) (aS 2 aNil)))) (τN 7))
    (sRet (fDisp .tuple (aV (fC (.str ("pair" : Str))) (aV (fV 7) (aV (fCall [0, 2] F.law_expression (aS 0 (aV (f2 oSub (fV 1) (fC (.int 1))) (aS 2 aNil)))) aNil)))))) sNil)
    (sSeq (sAsg (fCall [0] F.law_of (aS 0 (aV (fDisp .list (aV (fC .none) (aV (fCall [0] F.law_kind (aS 0 (aV (f2 oAdd (fC (.int 1)) (fCall [0] F.law_take (aS 0 (aV (fC (.int 6)) aNil)))) aNil))) aNil))) aNil))) (τN 8))
    (sRet (fDisp .tuple (aV (fC (.str ("call" : Str))) (aV (fV 4) (aV (fV 8) (aV (fCall [0, 2] F.law_arguments (aS 0 (aV (f2 oSub (fV 1) (fC (.int 1))) (aS 2 aNil)))) aNil)))))))))))))
/-- _law_statement(_law_hand_here, _law_deep, _law_room); slots 0:_law_hand_here 1:_law_deep 2:_law_room 3:_law_words 4:_law_word 5:_law_name_here 6:_law_other 7:_law_worth 8:_law_blocks 9:_law_k; changed in place [0, 2] -/
def b_law_statement (F : Fs) : Sf :=
  (sSeq (sSetI 2 (fC (.int 0)) (f2 oSub (f2l oIx 2 (fC (.int 0))) (fC (.int 1))))
    (sSeq (sAsg (fDisp .list (aV (fC (.str ("let" : Str))) (aV (fC (.str ("split" : Str))) (aV (fC (.str ("set" : Str))) (aV (fC (.str ("put" : Str))) (aV (fC (.str ("say" : Str))) (aV (fC (.str ("do" : Str))) (aV (fC (.str ("drop" : Str))) (aV (fC (.str ("give" : Str))) (aV (fC (.str ("fail" : Str))) (aV (fC (.str ("poke" : Str))) (aV (fC (.str ("free" : Str))) aNil)))))))))))) (τN 3))
    (sSeq (sAsg (fCall [0] F.law_of (aS 0 (aV (f2 oAdd (fV 3) (f2 oMul (fDisp .list (aV (fC (.str ("if" : Str))) (aV (fC (.str ("while" : Str))) (aV (fC (.str ("look" : Str))) (aV (fC (.str ("alter" : Str))) (aV (fC (.str ("fence" : Str))) aNil)))))) (fB oInt (aV (f2 (oRel fun i j => decide (j < i)) (fV 1) (fC (.int 0))) aNil)))) aNil))) (τN 4))
    (sSeq (sPar2 5 6 (aV (fCall [0] F.law_name (aS 0 aNil)) (aV (fCall [0] F.law_name (aS 0 aNil)) aNil)))
    (sSeq (sIf (f1 asB (f2 oEq (fV 4) (fC (.str ("do" : Str))))) (sRet (fDisp .tuple (aV (fV 4) (aV (fDisp .tuple (aV (fC (.str ("call" : Str))) (aV (fV 5) (aV (fC .none) (aV (fCall [0, 2] F.law_arguments (aS 0 (aV (f2 oAdd (fC (.int 1)) (fCall [0] F.law_take (aS 0 (aV (fC (.int 4)) aNil)))) (aS 2 aNil)))) aNil))))) aNil)))) sNil)
    (sSeq (sIf (f1 asB (f2 oEq (fV 4) (fC (.str ("fail" : Str))))) (sRet (fDisp .tuple (aV (fV 4) (aV (fCall [0] F.law_num (aS 0 aNil)) aNil)))) sNil)
    (sSeq (sIf (f1 asB (f2 oIn (fV 4) (fDisp .tuple (aV (fC (.str ("drop" : Str))) (aV (fC (.str ("free" : Str))) aNil))))) (sRet (fDisp .tuple (aV (fV 4) (aV (fV 5) aNil)))) sNil)
    (sSeq (sIf (f1 asB (f2 oIn (fV 4) (fDisp .tuple (aV (fC (.str ("look" : Str))) (aV (fC (.str ("alter" : Str))) (aV (fC (.str ("fence" : Str))) aNil)))))) (sRet (f2 oAdd (fSl (fDisp .tuple (aV (fV 4) (aV (fV 5) (aV (fV 6) aNil)))) pNo (f1 asI (f2 oSub (fC (.int 3)) (fB oInt (aV (f2 oEq (fV 4) (fC (.str ("fence" : Str)))) aNil))))) (fDisp .tuple (aV (fCall [0, 2] F.law_block (aS 0 (aV (f2 oSub (fV 1) (fC (.int 1))) (aS 2 aNil)))) aNil)))) sNil)
    (sSeq (sAsg (fCall [0, 2] F.law_expression (aS 0 (aV (f2 oAdd (fC (.int 1)) (fCall [0] F.law_take (aS 0 (aV (fC (.int 5)) aNil)))) (aS 2 aNil)))) (τN 7))
    (sSeq (sIf (f1 asB (f2 oEq (fV 4) (fC (.str ("split" : Str))))) (sRet (fDisp .tuple (aV (fV 4) (aV (fV 5) (aV (fV 6) (aV (fV 7) aNil)))))) sNil)
    (sSeq (sIf (f1 asB (f2 oIn (fV 4) (fDisp .tuple (aV (fC (.str ("say" : Str))) (aV (fC (.str ("give" : Str))) aNil))))) (sRet (fDisp .tuple (aV (fV 4) (aV (fV 7) aNil)))) sNil)
    (sSeq (sIf (f1 asB (f2 oIn (fV 4) (fDisp .tuple (aV (fC (.str ("if" : Str))) (aV (fC (.str ("while" : Str))) aNil))))) (sSeq (sAsg (vL (fLc [9] (fB itR1 (aV (f2 oSub (fC (.int 2)) (fB oInt (aV (f2 oEq (fV 4) (fC (.str ("while" : Str)))) aNil))) aNil)) (τN 9) gYes (fCall [0, 2] F.law_block (aS 0 (aV (f2 oSub (fV 1) (fC (.int 1))) (aS 2 aNil)))))) (τN 8))
    (sRet (f2 oAdd (fDisp .tuple (aV (fV 4) (aV (fV 7) aNil))) (fB oTup (aV (fV 8) aNil))))) sNil)
    (sRet (fDisp .tuple (aV (fV 4) (aV (fV 5) (aV (fV 7) aNil)))))))))))))))))
/-- _law_block(_law_hand_here, _law_deep, _law_room); slots 0:_law_hand_here 1:_law_deep 2:_law_room 3:_law_some 4:_law_k; changed in place [0, 2] -/
def b_law_block (F : Fs) : Sf :=
  (sSeq (sOwn 3 (fLst1 aNil))
    (sSeq (sFor (fB itR1 (aV (fCall [0] F.law_take (aS 0 (aV (fC (.int 5)) aNil))) aNil)) (τN 4) (sIf (f1 asB (f2 (oRel fun i j => decide (j < i)) (f2l oIx 2 (fC (.int 0))) (fC (.int 0)))) (sApp 3 (fCall [0, 2] F.law_statement (aS 0 (aV (fV 1) (aS 2 aNil))))) sNil))
    (sRet (fB oTup (aS 3 aNil)))))
/-- _law_odd(_law_hand_here, _law_name_here); slots 0:_law_hand_here 1:_law_name_here 2:_law_some; changed in place [0] -/
def b_law_odd (F : Fs) : Sf :=
  (sSeq (sAsg (fDisp .list (aV (fC .none) (aV (fC (.bool true)) (aV (fC (.bool false)) (aV (fC (.int 0)) (aV (fC (.int 1)) (aV (f2 oAdd (f2 oPow (fC (.int 10)) (fC (.int 9))) (fC (.int 1))) (aV (f2 oSub (f2 oSub (fC (.int 0)) (f2 oPow (fC (.int 10)) (fC (.int 9)))) (fC (.int 1))) (aV (f2 oPow (fC (.int 10)) (fC (.int 9))) (aV (f2 oPow (fC (.int 10)) (fC (.int 17))) (aV (fC (.str ("" : Str))) (aV (fC (.str ("A" : Str))) (aV (fC (.str ("abcdefg" : Str))) (aV (fC (.str ("a1" : Str))) aNil)))))))))))))) (τN 2))
    (sSeq (sAsg (f2 oAdd (fV 2) (fDisp .list (aV (fC (.str ("a b" : Str))) (aV (fC (.str ("end" : Str))) (aV (fC (.str ("call" : Str))) (aV (fC (.str ("num" : Str))) (aV (fC (.str ("T" : Str))) (aV (fC (.str ("box" : Str))) (aV (fC (.str ("take" : Str))) (aV (fC (.str ("look" : Str))) (aV (fC (.str ("+" : Str))) (aV (fC (.str ("==" : Str))) (aV (fC (.str ("-" : Str))) (aV (fV 1) (aV (fDisp .tuple aNil) (aV (fDisp .tuple (aV (fC (.str ("num" : Str))) aNil)) aNil)))))))))))))))) (τN 2))
    (sSeq (sAsg (f2 oAdd (fV 2) (fDisp .list (aV (fDisp .tuple (aV (fC (.str ("num" : Str))) (aV (fC (.int 1)) aNil))) (aV (fDisp .tuple (aV (fC (.str ("name" : Str))) (aV (fV 1) aNil))) (aV (fDisp .tuple (aV (fC (.str ("say" : Str))) (aV (fDisp .tuple (aV (fC (.str ("num" : Str))) (aV (fC (.int 0)) aNil))) aNil))) (aV (fDisp .list aNil) (aV (fC (.dict [])) (aV (fDisp .list (aV (fV 1) aNil)) (aV (fDisp .tuple (aV (fV 1) aNil)) (aV (fDisp .tuple (aV (fDisp .tuple aNil) aNil)) (aV (fC (.str ("abcdef" : Str))) aNil))))))))))) (τN 2))
    (sRet (fCall [0] F.law_of (aS 0 (aV (f2 oAdd (fV 2) (fDisp .list (aV (fDisp .tuple (aV (fC (.str ("take" : Str))) (aV (fDisp .tuple (aV (fC (.str ("num" : Str))) (aV (fC (.int 1)) aNil))) aNil))) (aV (fDisp .tuple (aV (fC (.str ("look" : Str))) (aV (fV 1) aNil))) (aV (fDisp .tuple (aV (fC (.str ("box" : Str))) (aV (fC (.str ("num" : Str))) aNil))) (aV (fDisp .tuple (aV (fC (.str ("name" : Str))) (aV (fV 1) (aV (fV 1) aNil)))) aNil)))))) aNil)))))))
/-- _law_spoilt(_law_hand_here, _law_thing); slots 0:_law_hand_here 1:_law_thing 2:_law_at 3:_law_pick 4:_law_to; changed in place [0] -/
def b_law_spoilt (F : Fs) : Sf :=
  (sSeq (sIf (fOr (f1 (fun c => some (!c)) (f1 truD (f1 (oIs isTup) (fV 1)))) (f1 asB (f2 oEq (fV 1) (fDisp .tuple aNil)))) (sRet (fCall [0] F.law_odd (aS 0 (aV (fC (.str ("b" : Str))) aNil)))) sNil)
    (sSeq (sPar3 2 3 4 (aV (fCall [0] F.law_take (aS 0 (aV (fB oLen (aV (fV 1) aNil)) aNil))) (aV (fCall [0] F.law_take (aS 0 (aV (fC (.int 12)) aNil))) (aV (fCall [0] F.law_take (aS 0 (aV (fB oLen (aV (fV 1) aNil)) aNil))) aNil))))
    (sSeq (sIf (fAnd (f1 asB (f2 (oRel fun i j => decide (j < i)) (fV 3) (fC (.int 4)))) (f1 truD (f1 (oIs isTup) (f2 oIx (fV 1) (fV 2))))) (sRet (f2 oAdd (f2 oAdd (fSl (fV 1) pNo (f1 asI (fV 2))) (fDisp .tuple (aV (fCall [0] F.law_spoilt (aS 0 (aV (f2 oIx (fV 1) (fV 2)) aNil))) aNil))) (fSl (fV 1) (f1 asI (f2 oAdd (fV 2) (fC (.int 1)))) pNo))) sNil)
    (sSeq (sIf (f1 asB (f2 oEq (fV 3) (fC (.int 0)))) (sRet (f2 oAdd (fSl (fV 1) pNo (f1 asI (fV 2))) (fSl (fV 1) (f1 asI (f2 oAdd (fV 2) (fC (.int 1)))) pNo))) sNil)
    (sSeq (sIf (f1 asB (f2 oEq (fV 3) (fC (.int 1)))) (sRet (f2 oAdd (f2 oAdd (fSl (fV 1) pNo (f1 asI (fV 2))) (fDisp .tuple (aV (f2 oIx (fV 1) (fV 4)) aNil))) (fSl (fV 1) (f1 asI (fV 2)) pNo))) sNil)
    (sSeq (sIf (f1 asB (f2 oEq (fV 3) (fC (.int 2)))) (sRet (fIf (f1 asB (f2 oEq (fV 4) (fV 2))) (fB oList (aV (fV 1) aNil)) (f2 oAdd (f2 oAdd (fSl (fV 1) pNo (f1 asI (fV 2))) (fDisp .tuple (aV (f2 oIx (fV 1) (fV 4)) aNil))) (fSl (fV 1) (f1 asI (f2 oAdd (fV 2) (fC (.int 1)))) pNo)))) sNil)
    (sRet (f2 oAdd (f2 oAdd (fSl (fV 1) pNo (f1 asI (fV 2))) (fDisp .tuple (aV (fCall [0] F.law_odd (aS 0 (aV (fC (.str ("c" : Str))) aNil))) aNil))) (fSl (fV 1) (f1 asI (f2 oAdd (fV 2) (fC (.int 1)))) pNo)))))))))
/-- _law_is_name(_law_thing); slots 0:_law_thing 1:_law_sign; changed in place [] -/
def b_law_is_name (F : Fs) : Sf :=
  (sSeq (sIf (fOr (f1 (fun c => some (!c)) (f1 truD (f1 (oIs isStr) (fV 0)))) (fOr (f1 asB (f2 oEq (fB oLen (aV (fV 0) aNil)) (fC (.int 0)))) (fOr (f1 asB (f2 (oRel fun i j => decide (j < i)) (fB oLen (aV (fV 0) aNil)) (fC (.int 6)))) (f1 asB (f2 oIn (fV 0) (fCall [] F.law_keywords aNil)))))) (sRet (fC (.bool false))) sNil)
    (sRet (f2 oEqL (vL (fLc [1] (f1 itS (fV 0)) (τN 1) (f1 asB (f2 oNotIn (fV 1) (fC (.str ("abcdefghijklmnopqrstuvwxyz" : Str))))) (fV 1))) (fDisp .list aNil))))
/-- _law_is_num(_law_thing); slots 0:_law_thing; changed in place [] -/
def b_law_is_num (F : Fs) : Sf :=
  (sRet (fAndV (f1 (oIs isInt) (fV 0)) (fAndV (f1 (fun x => (truD x).map fun k => .bool (!k)) (f1 (oIs isBool) (fV 0))) (f2 (oRel fun i j => decide (i ≤ j)) (fB oAbs (aV (fV 0) aNil)) (f2 oPow (fC (.int 10)) (fC (.int 9)))))))
/-- _law_is_kind(_law_thing, _law_deep); slots 0:_law_thing 1:_law_deep 2:_law_part; changed in place [] -/
def b_law_is_kind (F : Fs) : Sf :=
  (sSeq (sIf (f1 asB (f2 oEq (fV 1) (fC (.int 0)))) (sRet (fC (.bool false))) sNil)
    (sSeq (sIf (f1 truD (f1 (oIs isStr) (fV 0))) (sRet (fOrV (f2 oEq (fV 0) (fC (.str ("num" : Str)))) (f2 oEq (fV 0) (fC (.str ("T" : Str)))))) sNil)
    (sSeq (sIf (fOr (f1 (fun c => some (!c)) (f1 truD (f1 (oIs isTup) (fV 0)))) (fOr (f1 asB (f2 oNotIn (fB oLen (aV (fV 0) aNil)) (fDisp .tuple (aV (fC (.int 2)) (aV (fC (.int 3)) aNil))))) (f1 (fun c => some (!c)) (f1 truD (f1 (oIs isStr) (f2 oIx (fV 0) (fC (.int 0)))))))) (sRet (fC (.bool false))) sNil)
    (sSeq (sIf (f1 asB (f2 oNe (f2 oIx (fV 0) (fC (.int 0))) (f2 oIx (fDisp .list (aV (fC (.str ("box" : Str))) (aV (fC (.str ("pair" : Str))) aNil))) (f2 oSub (fB oLen (aV (fV 0) aNil)) (fC (.int 2)))))) (sRet (fC (.bool false))) sNil)
    (sRet (fB oAll (aV (vL (fLc [2] (f1 itT (fSl (fV 0) (f1 asI (fC (.int 1))) pNo)) (τN 2) gYes (fCall [] F.law_is_kind (aV (fV 2) (aV (f2 oSub (fV 1) (fC (.int 1))) aNil))))) aNil)))))))
/-- _law_is_argument(_law_thing, _law_deep); slots 0:_law_thing 1:_law_deep; changed in place [] -/
def b_law_is_argument (F : Fs) : Sf :=
  (sSeq (sIf (fOr (f1 (fun c => some (!c)) (f1 truD (f1 (oIs isTup) (fV 0)))) (fOr (f1 asB (f2 oNe (fB oLen (aV (fV 0) aNil)) (fC (.int 2)))) (f1 (fun c => some (!c)) (f1 truD (f1 (oIs isStr) (f2 oIx (fV 0) (fC (.int 0)))))))) (sRet (fC (.bool false))) sNil)
    (sSeq (sIf (f1 asB (f2 oEq (f2 oIx (fV 0) (fC (.int 0))) (fC (.str ("take" : Str))))) (sRet (fCall [] F.law_is_expression (aV (f2 oIx (fV 0) (fC (.int 1))) (aV (fV 1) aNil)))) sNil)
    (sRet (fAndV (f2 oIn (f2 oIx (fV 0) (fC (.int 0))) (fDisp .list (aV (fC (.str ("look" : Str))) (aV (fC (.str ("alter" : Str))) aNil)))) (fCall [] F.law_is_name (aV (f2 oIx (fV 0) (fC (.int 1))) aNil))))))
/-- _law_is_expression(_law_thing, _law_deep); slots 0:_law_thing 1:_law_deep 2:_law_word 3:_law_many 4:_law_one 5:_law_part; changed in place [] -/
def b_law_is_expression (F : Fs) : Sf :=
  (sSeq (sIf (fOr (f1 asB (f2 oEq (fV 1) (fC (.int 0)))) (fOr (f1 (fun c => some (!c)) (f1 truD (f1 (oIs isTup) (fV 0)))) (fOr (f1 asB (f2 oEq (fV 0) (fDisp .tuple aNil))) (f1 (fun c => some (!c)) (f1 truD (f1 (oIs isStr) (f2 oIx (fV 0) (fC (.int 0))))))))) (sRet (fC (.bool false))) sNil)
    (sSeq (sPar2 2 3 (aV (f2 oIx (fV 0) (fC (.int 0))) (aV (fB oLen (aV (fV 0) aNil)) aNil)))
    (sSeq (sIf (f1 asB (f2 oEq (fV 2) (fC (.str ("num" : Str))))) (sRet (fAndV (f2 oEq (fV 3) (fC (.int 2))) (fCall [] F.law_is_num (aV (f2 oIx (fV 0) (fC (.int 1))) aNil)))) sNil)
    (sSeq (sIf (f1 asB (f2 oIn (fV 2) (fDisp .tuple (aV (fC (.str ("name" : Str))) (aV (fC (.str ("see" : Str))) (aV (fC (.str ("peek" : Str))) aNil)))))) (sRet (fAndV (f2 oEq (fV 3) (fC (.int 2))) (fCall [] F.law_is_name (aV (f2 oIx (fV 0) (fC (.int 1))) aNil)))) sNil)
    (sSeq (sIf (f1 asB (f2 oIn (fV 2) (fDisp .tuple (aV (fC (.str ("box" : Str))) (aV (fC (.str ("unbox" : Str))) (aV (fC (.str ("loose" : Str))) aNil)))))) (sRet (fAndV (f2 oEq (fV 3) (fC (.int 2))) (fCall [] F.law_is_expression (aV (f2 oIx (fV 0) (fC (.int 1))) (aV (f2 oSub (fV 1) (fC (.int 1))) aNil))))) sNil)
    (sSeq (sIf (f1 asB (f2 oEq (fV 2) (fC (.str ("call" : Str))))) (sSeq (sIf (fOr (f1 asB (f2 oNe (fV 3) (fC (.int 4)))) (fOr (f1 (fun c => some (!c)) (f1 truD (fCall [] F.law_is_name (aV (f2 oIx (fV 0) (fC (.int 1))) aNil)))) (f1 (fun c => some (!c)) (fOr (f1 asB (f1 oIsN (f2 oIx (fV 0) (fC (.int 2))))) (f1 truD (fCall [] F.law_is_kind (aV (f2 oIx (fV 0) (fC (.int 2))) (aV (fC (.int 6)) aNil)))))))) (sRet (fC (.bool false))) sNil)
    (sSeq (sIf (fOr (f1 (fun c => some (!c)) (f1 truD (f1 (oIs isTup) (f2 oIx (fV 0) (fC (.int 3)))))) (f1 asB (f2 (oRel fun i j => decide (j < i)) (fB oLen (aV (f2 oIx (fV 0) (fC (.int 3))) aNil)) (fC (.int 4))))) (sRet (fC (.bool false))) sNil)
    (sRet (fB oAll (aV (vL (fLc [4] (f1 itT (f2 oIx (fV 0) (fC (.int 3)))) (τN 4) gYes (fCall [] F.law_is_argument (aV (fV 4) (aV (f2 oSub (fV 1) (fC (.int 1))) aNil))))) aNil))))) sNil)
    (sSeq (sIf (f1 asB (f2 oEq (fV 2) (fC (.str ("op" : Str))))) (sSeq (sIf (fOr (f1 asB (f2 oNe (fV 3) (fC (.int 4)))) (fOr (f1 (fun c => some (!c)) (f1 truD (f1 (oIs isStr) (f2 oIx (fV 0) (fC (.int 1)))))) (f1 asB (f2 oNotIn (f2 oIx (fV 0) (fC (.int 1))) (fDisp .list (aV (fC (.str ("+" : Str))) (aV (fC (.str ("-" : Str))) (aV (fC (.str ("*" : Str))) (aV (fC (.str ("/" : Str))) (aV (fC (.str ("<" : Str))) (aV (fC (.str ("=" : Str))) aNil))))))))))) (sRet (fC (.bool false))) sNil)
    (sRet (fAndV (fCall [] F.law_is_expression (aV (f2 oIx (fV 0) (fC (.int 2))) (aV (f2 oSub (fV 1) (fC (.int 1))) aNil))) (fCall [] F.law_is_expression (aV (f2 oIx (fV 0) (fC (.int 3))) (aV (f2 oSub (fV 1) (fC (.int 1))) aNil)))))) sNil)
    (sRet (fAndV (f2 oEq (fV 2) (fC (.str ("pair" : Str)))) (fAndV (f2 oEq (fV 3) (fC (.int 3))) (fB oAll (aV (vL (fLc [5] (f1 itT (fSl (fV 0) (f1 asI (fC (.int 1))) pNo)) (τN 5) gYes (fCall [] F.law_is_expression (aV (fV 5) (aV (f2 oSub (fV 1) (fC (.int 1))) aNil))))) aNil))))))))))))
/-- _law_is_statement(_law_thing, _law_left); slots 0:_law_thing 1:_law_left 2:_law_word 3:_law_many 4:_law_fine 5:_law_one; changed in place [] -/
def b_law_is_statement (F : Fs) : Sf :=
  (sSeq (sIf (fOr (f1 (fun c => some (!c)) (f1 truD (f1 (oIs isTup) (fV 0)))) (fOr (f1 asB (f2 oEq (fV 0) (fDisp .tuple aNil))) (f1 (fun c => some (!c)) (f1 truD (f1 (oIs isStr) (f2 oIx (fV 0) (fC (.int 0)))))))) (sRet (fC (.bool false))) sNil)
    (sSeq (sPar2 2 3 (aV (f2 oIx (fV 0) (fC (.int 0))) (aV (fB oLen (aV (fV 0) aNil)) aNil)))
    (sSeq (sIf (f1 asB (f2 oIn (fV 2) (fDisp .tuple (aV (fC (.str ("let" : Str))) (aV (fC (.str ("set" : Str))) (aV (fC (.str ("put" : Str))) (aV (fC (.str ("poke" : Str))) aNil))))))) (sRet (fAndV (f2 oEq (fV 3) (fC (.int 3))) (fAndV (fCall [] F.law_is_name (aV (f2 oIx (fV 0) (fC (.int 1))) aNil)) (fCall [] F.law_is_expression (aV (f2 oIx (fV 0) (fC (.int 2))) (aV (fC (.int 5)) aNil)))))) sNil)
    (sSeq (sIf (f1 asB (f2 oEq (fV 2) (fC (.str ("split" : Str))))) (sRet (fAndV (f2 oEq (fV 3) (fC (.int 4))) (fAndV (fB oAll (aV (vL (fLc [5] (f1 itT (fSl (fV 0) (f1 asI (fC (.int 1))) (f1 asI (fC (.int 3))))) (τN 5) gYes (fCall [] F.law_is_name (aV (fV 5) aNil)))) aNil)) (fCall [] F.law_is_expression (aV (f2 oIx (fV 0) (fC (.int 3))) (aV (fC (.int 5)) aNil)))))) sNil)
    (sSeq (sIf (f1 asB (f2 oIn (fV 2) (fDisp .tuple (aV (fC (.str ("say" : Str))) (aV (fC (.str ("give" : Str))) aNil))))) (sRet (fAndV (f2 oEq (fV 3) (fC (.int 2))) (fCall [] F.law_is_expression (aV (f2 oIx (fV 0) (fC (.int 1))) (aV (fC (.int 5)) aNil))))) sNil)
    (sSeq (sIf (f1 asB (f2 oEq (fV 2) (fC (.str ("do" : Str))))) (sRet (fAndV (f2 oEq (fV 3) (fC (.int 2))) (fAndV (fCall [] F.law_is_expression (aV (f2 oIx (fV 0) (fC (.int 1))) (aV (fC (.int 5)) aNil))) (f2 oEq (f2 oIx (f2 oIx (fV 0) (fC (.int 1))) (fC (.int 0))) (fC (.str ("call" : Str))))))) sNil)
    (sSeq (sIf (f1 asB (f2 oIn (fV 2) (fDisp .tuple (aV (fC (.str ("drop" : Str))) (aV (fC (.str ("free" : Str))) aNil))))) (sRet (fAndV (f2 oEq (fV 3) (fC (.int 2))) (fCall [] F.law_is_name (aV (f2 oIx (fV 0) (fC (.int 1))) aNil)))) sNil)
    (sSeq (sIf (f1 asB (f2 oEq (fV 2) (fC (.str ("fail" : Str))))) (sRet (fAndV (f2 oEq (fV 3) (fC (.int 2))) (fCall [] F.law_is_num (aV (f2 oIx (fV 0) (fC (.int 1))) aNil)))) sNil)
    (sSeq (sIf (f1 asB (f2 oEq (fV 2) (fC (.str ("if" : Str))))) (sSeq (sAsg (fAndV (f2 oEq (fV 3) (fC (.int 4))) (fCall [] F.law_is_expression (aV (f2 oIx (fV 0) (fC (.int 1))) (aV (fC (.int 5)) aNil)))) (τN 4))
    (sRet (fAndV (fV 4) (fAndV (fCall [] F.law_is_block (aV (f2 oIx (fV 0) (fC (.int 2))) (aV (fV 1) aNil))) (fCall [] F.law_is_block (aV (f2 oIx (fV 0) (fC (.int 3))) (aV (fV 1) aNil))))))) sNil)
    (sSeq (sIf (f1 asB (f2 oEq (fV 2) (fC (.str ("while" : Str))))) (sRet (fAndV (f2 oEq (fV 3) (fC (.int 3))) (fAndV (fCall [] F.law_is_expression (aV (f2 oIx (fV 0) (fC (.int 1))) (aV (fC (.int 5)) aNil))) (fCall [] F.law_is_block (aV (f2 oIx (fV 0) (fC (.int 2))) (aV (fV 1) aNil)))))) sNil)
    (sSeq (sIf (f1 asB (f2 oEq (fV 2) (fC (.str ("fence" : Str))))) (sRet (fAndV (f2 oEq (fV 3) (fC (.int 3))) (fAndV (fCall [] F.law_is_name (aV (f2 oIx (fV 0) (fC (.int 1))) aNil)) (fCall [] F.law_is_block (aV (f2 oIx (fV 0) (fC (.int 2))) (aV (fV 1) aNil)))))) sNil)
    (sSeq (sIf (fOr (f1 asB (f2 oNotIn (fV 2) (fDisp .tuple (aV (fC (.str ("look" : Str))) (aV (fC (.str ("alter" : Str))) aNil))))) (f1 asB (f2 oNe (fV 3) (fC (.int 4))))) (sRet (fC (.bool false))) sNil)
    (sRet (fAndV (fCall [] F.law_is_name (aV (f2 oIx (fV 0) (fC (.int 1))) aNil)) (fAndV (fCall [] F.law_is_name (aV (f2 oIx (fV 0) (fC (.int 2))) aNil)) (fCall [] F.law_is_block (aV (f2 oIx (fV 0) (fC (.int 3))) (aV (fV 1) aNil))))))))))))))))))
/-- _law_is_block(_law_thing, _law_left); slots 0:_law_thing 1:_law_left 2:_law_one; changed in place [] -/
def b_law_is_block (F : Fs) : Sf :=
  (sSeq (sIf (fOr (f1 asB (f2 oEq (fV 1) (fC (.int 0)))) (f1 (fun c => some (!c)) (f1 truD (f1 (oIs isTup) (fV 0))))) (sRet (fC (.bool false))) sNil)
    (sRet (fB oAll (aV (vL (fLc [2] (f1 itT (fV 0)) (τN 2) gYes (fCall [] F.law_is_statement (aV (fV 2) (aV (f2 oSub (fV 1) (fC (.int 1))) aNil))))) aNil))))
/-- law(_law_script); slots 0:_law_script 1:_law_k 2:_law_hand_here 3:_law_turn 4:_law_room 5:_law_block_here 6:_law_deep 7:_law_some 8:_law_found; changed in place [] -/
def b_law (F : Fs) : Sf :=
  (sSeq (sFor (fB itR1 (aV (fB oMax (aV (fC (.int 1)) (aV (fB oMin (aV (fC (.int 2)) (aV (fB oLen (aV (fV 0) aNil)) aNil))) aNil))) aNil)) (τN 1) (sSeq (sOwn 2 (fCallL F.law_hand (aV (fV 0) (aV (fV 1) aNil))))
    (sFor (fB itR1 (aV (fC (.int 12)) aNil)) (τN 3) (sSeq (sOwn 4 (fLst1 (aV (f2 oAdd (fC (.int 1)) (fCall [0] F.law_take (aS 2 (aV (fC (.int 40)) aNil)))) aNil)))
    (sSeq (sAsg (fCall [0, 2] F.law_block (aS 2 (aV (fCall [0] F.law_of (aS 2 (aV (fDisp .list (aV (fC (.int 4)) (aV (fC (.int 4)) (aV (fC (.int 3)) (aV (fC (.int 0)) aNil))))) aNil))) (aS 4 aNil)))) (τN 5))
    (sSeq (sFor (fB itR1 (aV (fCall [0] F.law_of (aS 2 (aV (fDisp .list (aV (fC (.int 0)) (aV (fC (.int 0)) (aV (fC (.int 1)) (aV (fC (.int 4)) (aV (fC (.int 5)) aNil)))))) aNil))) aNil)) (τN 6) (sSeq (sAsg (fDisp .list (aV (fDisp .tuple (aV (fC (.str ("while" : Str))) (aV (fDisp .tuple (aV (fC (.str ("num" : Str))) (aV (fC (.int 0)) aNil))) (aV (fV 5) aNil)))) (aV (fDisp .tuple (aV (fC (.str ("look" : Str))) (aV (fC (.str ("a" : Str))) (aV (fC (.str ("b" : Str))) (aV (fV 5) aNil))))) (aV (fDisp .tuple (aV (fC (.str ("fence" : Str))) (aV (fC (.str ("c" : Str))) (aV (fV 5) aNil)))) aNil)))) (τN 7))
    (sAsg (fDisp .tuple (aV (fCall [0] F.law_of (aS 2 (aV (fV 7) aNil))) aNil)) (τN 5))))
    (sSeq (sIf (f1 asB (f2 (oRel fun i j => decide (j < i)) (fCall [0] F.law_take (aS 2 (aV (fC (.int 3)) aNil))) (fC (.int 0)))) (sAsg (fCall [0] F.law_spoilt (aS 2 (aV (fV 5) aNil))) (τN 5)) sNil)
    (sSeq (sAsg (fCall [] F.is_program (aV (fDisp .tuple (aV (fDisp .tuple (aV (fC (.str ("main" : Str))) (aV (fC (.bool false)) (aV (fDisp .tuple aNil) (aV (fC (.str ("num" : Str))) (aV (fV 5) aNil)))))) aNil)) aNil)) (τN 8))
    (sIf (fOr (f1 (fun c => some (!c)) (f1 truD (f1 (oIs isBool) (fV 8)))) (f1 asB (f2 oNe (fV 8) (fCall [] F.law_is_block (aV (fV 5) (aV (fC (.int 5)) aNil)))))) (sRet (fC (.bool false))) sNil)))))))))
    (sRet (fC (.bool true))))
def step (F : Fs) : Fs where
  is_name := bodyFn [] 1 (b_is_name F)
  is_whole := bodyFn [] 0 (b_is_whole F)
  is_num := bodyFn [] 0 (b_is_num F)
  is_sign := bodyFn [] 0 (b_is_sign F)
  is_row_of := bodyFn [] 0 (b_is_row_of F)
  is_mode := bodyFn [] 0 (b_is_mode F)
  first_word := bodyFn [] 0 (b_first_word F)
  is_kind_within := bodyFn [] 2 (b_is_kind_within F)
  is_kind := bodyFn [] 0 (b_is_kind F)
  is_argument := bodyFn [] 0 (b_is_argument F)
  are_arguments := bodyFn [] 1 (b_are_arguments F)
  is_part := bodyFn [] 0 (b_is_part F)
  is_expression := bodyFn [] 3 (b_is_expression F)
  is_statement := bodyFn [] 3 (b_is_statement F)
  is_block := bodyFn [] 1 (b_is_block F)
  is_param := bodyFn [] 0 (b_is_param F)
  is_body := bodyFn [] 6 (b_is_body F)
  is_program := bodyFn [] 1 (b_is_program F)
  law_hand := bodyFnL [] 2 (b_law_hand F)
  law_take := bodyFn [0] 4 (b_law_take F)
  law_of := bodyFn [0] 0 (b_law_of F)
  law_keywords := bodyFn [] 1 (b_law_keywords F)
  law_name := bodyFn [0] 3 (b_law_name F)
  law_kind := bodyFn [0] 3 (b_law_kind F)
  law_num := bodyFn [0] 1 (b_law_num F)
  law_arguments := bodyFn [0, 2] 4 (b_law_arguments F)
  law_expression := bodyFn [0, 2] 6 (b_law_expression F)
  law_statement := bodyFn [0, 2] 7 (b_law_statement F)
  law_block := bodyFn [0, 2] 2 (b_law_block F)
  law_odd := bodyFn [0] 1 (b_law_odd F)
  law_spoilt := bodyFn [0] 3 (b_law_spoilt F)
  law_is_name := bodyFn [] 1 (b_law_is_name F)
  law_is_num := bodyFn [] 0 (b_law_is_num F)
  law_is_kind := bodyFn [] 1 (b_law_is_kind F)
  law_is_argument := bodyFn [] 0 (b_law_is_argument F)
  law_is_expression := bodyFn [] 4 (b_law_is_expression F)
  law_is_statement := bodyFn [] 4 (b_law_is_statement F)
  law_is_block := bodyFn [] 1 (b_law_is_block F)
  law := bodyFn [] 8 (b_law F)
def fs : Nat → Fs
  | 0 => Fs.bot
  | n + 1 => step (fs n)
def top (i : Nat) : Stmt := PySem.Challenge.pw_ownedtongue_k03_statements_of_anything.main.body.getD i (.Pass ⟨0, 0, 0, 0⟩)
abbrev s_is_name : Stmt := top 6
abbrev s_is_whole : Stmt := top 7
abbrev s_is_num : Stmt := top 8
abbrev s_is_sign : Stmt := top 9
abbrev s_is_row_of : Stmt := top 22
abbrev s_is_mode : Stmt := top 23
abbrev s_first_word : Stmt := top 24
abbrev s_is_kind_within : Stmt := top 25
abbrev s_is_kind : Stmt := top 26
abbrev s_is_argument : Stmt := top 27
abbrev s_are_arguments : Stmt := top 28
abbrev s_is_part : Stmt := top 29
abbrev s_is_expression : Stmt := top 30
abbrev s_is_statement : Stmt := top 31
abbrev s_is_block : Stmt := top 32
abbrev s_is_param : Stmt := top 33
abbrev s_is_body : Stmt := top 34
abbrev s_is_program : Stmt := top 35
abbrev s_law_hand : Stmt := top 37
abbrev s_law_take : Stmt := top 38
abbrev s_law_of : Stmt := top 39
abbrev s_law_keywords : Stmt := top 40
abbrev s_law_name : Stmt := top 41
abbrev s_law_kind : Stmt := top 42
abbrev s_law_num : Stmt := top 43
abbrev s_law_arguments : Stmt := top 44
abbrev s_law_expression : Stmt := top 45
abbrev s_law_statement : Stmt := top 46
abbrev s_law_block : Stmt := top 47
abbrev s_law_odd : Stmt := top 48
abbrev s_law_spoilt : Stmt := top 49
abbrev s_law_is_name : Stmt := top 50
abbrev s_law_is_num : Stmt := top 51
abbrev s_law_is_kind : Stmt := top 52
abbrev s_law_is_argument : Stmt := top 53
abbrev s_law_is_expression : Stmt := top 54
abbrev s_law_is_statement : Stmt := top 55
abbrev s_law_is_block : Stmt := top 56
abbrev s_law : Stmt := top 57
structure Tp (w : World) (K : PySem.W.Frag) (mg : Str → Option Value) (fds : Nat → FuncData) : Prop where
  f_is_name : FunD K ("is_name" : Str) ("is_name" : Str) (defArgs s_is_name) (defBody s_is_name) (defScope s_is_name) [] [] (He.ga K ("is_name" : Str)) (fds 0)
  b_is_name : Binds K (fds 0) [("thing" : Str)] []
  m_is_name : mg ("is_name" : Str) = some (.ref (He.ga K ("is_name" : Str)))
  f_is_whole : FunD K ("is_whole" : Str) ("is_whole" : Str) (defArgs s_is_whole) (defBody s_is_whole) (defScope s_is_whole) [] [] (He.ga K ("is_whole" : Str)) (fds 1)
  b_is_whole : Binds K (fds 1) [("thing" : Str)] []
  m_is_whole : mg ("is_whole" : Str) = some (.ref (He.ga K ("is_whole" : Str)))
  f_is_num : FunD K ("is_num" : Str) ("is_num" : Str) (defArgs s_is_num) (defBody s_is_num) (defScope s_is_num) [] [] (He.ga K ("is_num" : Str)) (fds 2)
  b_is_num : Binds K (fds 2) [("thing" : Str)] []
  m_is_num : mg ("is_num" : Str) = some (.ref (He.ga K ("is_num" : Str)))
  f_is_sign : FunD K ("is_sign" : Str) ("is_sign" : Str) (defArgs s_is_sign) (defBody s_is_sign) (defScope s_is_sign) [] [] (He.ga K ("is_sign" : Str)) (fds 3)
  b_is_sign : Binds K (fds 3) [("thing" : Str)] []
  m_is_sign : mg ("is_sign" : Str) = some (.ref (He.ga K ("is_sign" : Str)))
  f_is_row_of : FunD K ("is_row_of" : Str) ("is_row_of" : Str) (defArgs s_is_row_of) (defBody s_is_row_of) (defScope s_is_row_of) [] [] (He.ga K ("is_row_of" : Str)) (fds 4)
  b_is_row_of : Binds K (fds 4) [("thing" : Str), ("many" : Str)] []
  m_is_row_of : mg ("is_row_of" : Str) = some (.ref (He.ga K ("is_row_of" : Str)))
  f_is_mode : FunD K ("is_mode" : Str) ("is_mode" : Str) (defArgs s_is_mode) (defBody s_is_mode) (defScope s_is_mode) [] [] (He.ga K ("is_mode" : Str)) (fds 5)
  b_is_mode : Binds K (fds 5) [("thing" : Str)] []
  m_is_mode : mg ("is_mode" : Str) = some (.ref (He.ga K ("is_mode" : Str)))
  f_first_word : FunD K ("first_word" : Str) ("first_word" : Str) (defArgs s_first_word) (defBody s_first_word) (defScope s_first_word) [] [] (He.ga K ("first_word" : Str)) (fds 6)
  b_first_word : Binds K (fds 6) [("thing" : Str)] []
  m_first_word : mg ("first_word" : Str) = some (.ref (He.ga K ("first_word" : Str)))
  f_is_kind_within : FunD K ("is_kind_within" : Str) ("is_kind_within" : Str) (defArgs s_is_kind_within) (defBody s_is_kind_within) (defScope s_is_kind_within) [] [] (He.ga K ("is_kind_within" : Str)) (fds 7)
  b_is_kind_within : Binds K (fds 7) [("thing" : Str), ("deep" : Str)] []
  m_is_kind_within : mg ("is_kind_within" : Str) = some (.ref (He.ga K ("is_kind_within" : Str)))
  f_is_kind : FunD K ("is_kind" : Str) ("is_kind" : Str) (defArgs s_is_kind) (defBody s_is_kind) (defScope s_is_kind) [] [] (He.ga K ("is_kind" : Str)) (fds 8)
  b_is_kind : Binds K (fds 8) [("thing" : Str)] []
  m_is_kind : mg ("is_kind" : Str) = some (.ref (He.ga K ("is_kind" : Str)))
  f_is_argument : FunD K ("is_argument" : Str) ("is_argument" : Str) (defArgs s_is_argument) (defBody s_is_argument) (defScope s_is_argument) [] [] (He.ga K ("is_argument" : Str)) (fds 9)
  b_is_argument : Binds K (fds 9) [("thing" : Str), ("deep" : Str)] []
  m_is_argument : mg ("is_argument" : Str) = some (.ref (He.ga K ("is_argument" : Str)))
  f_are_arguments : FunD K ("are_arguments" : Str) ("are_arguments" : Str) (defArgs s_are_arguments) (defBody s_are_arguments) (defScope s_are_arguments) [] [] (He.ga K ("are_arguments" : Str)) (fds 10)
  b_are_arguments : Binds K (fds 10) [("thing" : Str), ("deep" : Str)] []
  m_are_arguments : mg ("are_arguments" : Str) = some (.ref (He.ga K ("are_arguments" : Str)))
  f_is_part : FunD K ("is_part" : Str) ("is_part" : Str) (defArgs s_is_part) (defBody s_is_part) (defScope s_is_part) [] [] (He.ga K ("is_part" : Str)) (fds 11)
  b_is_part : Binds K (fds 11) [("form" : Str), ("thing" : Str), ("deep" : Str)] []
  m_is_part : mg ("is_part" : Str) = some (.ref (He.ga K ("is_part" : Str)))
  f_is_expression : FunD K ("is_expression" : Str) ("is_expression" : Str) (defArgs s_is_expression) (defBody s_is_expression) (defScope s_is_expression) [] [] (He.ga K ("is_expression" : Str)) (fds 12)
  b_is_expression : Binds K (fds 12) [("thing" : Str), ("deep" : Str)] []
  m_is_expression : mg ("is_expression" : Str) = some (.ref (He.ga K ("is_expression" : Str)))
  f_is_statement : FunD K ("is_statement" : Str) ("is_statement" : Str) (defArgs s_is_statement) (defBody s_is_statement) (defScope s_is_statement) [] [] (He.ga K ("is_statement" : Str)) (fds 13)
  b_is_statement : Binds K (fds 13) [("thing" : Str), ("deep" : Str)] []
  m_is_statement : mg ("is_statement" : Str) = some (.ref (He.ga K ("is_statement" : Str)))
  f_is_block : FunD K ("is_block" : Str) ("is_block" : Str) (defArgs s_is_block) (defBody s_is_block) (defScope s_is_block) [] [] (He.ga K ("is_block" : Str)) (fds 14)
  b_is_block : Binds K (fds 14) [("thing" : Str), ("deep" : Str)] []
  m_is_block : mg ("is_block" : Str) = some (.ref (He.ga K ("is_block" : Str)))
  f_is_param : FunD K ("is_param" : Str) ("is_param" : Str) (defArgs s_is_param) (defBody s_is_param) (defScope s_is_param) [] [] (He.ga K ("is_param" : Str)) (fds 15)
  b_is_param : Binds K (fds 15) [("thing" : Str)] []
  m_is_param : mg ("is_param" : Str) = some (.ref (He.ga K ("is_param" : Str)))
  f_is_body : FunD K ("is_body" : Str) ("is_body" : Str) (defArgs s_is_body) (defBody s_is_body) (defScope s_is_body) [] [] (He.ga K ("is_body" : Str)) (fds 16)
  b_is_body : Binds K (fds 16) [("thing" : Str)] []
  m_is_body : mg ("is_body" : Str) = some (.ref (He.ga K ("is_body" : Str)))
  f_is_program : FunD K ("is_program" : Str) ("is_program" : Str) (defArgs s_is_program) (defBody s_is_program) (defScope s_is_program) [] [] (He.ga K ("is_program" : Str)) (fds 17)
  b_is_program : Binds K (fds 17) [("thing" : Str)] []
  m_is_program : mg ("is_program" : Str) = some (.ref (He.ga K ("is_program" : Str)))
  f_law_hand : FunD K ("_law_hand" : Str) ("_law_hand" : Str) (defArgs s_law_hand) (defBody s_law_hand) (defScope s_law_hand) [] [] (He.ga K ("_law_hand" : Str)) (fds 18)
  b_law_hand : Binds K (fds 18) [("_law_script" : Str), ("_law_k" : Str)] []
  m_law_hand : mg ("_law_hand" : Str) = some (.ref (He.ga K ("_law_hand" : Str)))
  f_law_take : FunD K ("_law_take" : Str) ("_law_take" : Str) (defArgs s_law_take) (defBody s_law_take) (defScope s_law_take) [] [] (He.ga K ("_law_take" : Str)) (fds 19)
  b_law_take : Binds K (fds 19) [("_law_hand_here" : Str), ("_law_many" : Str)] []
  m_law_take : mg ("_law_take" : Str) = some (.ref (He.ga K ("_law_take" : Str)))
  f_law_of : FunD K ("_law_of" : Str) ("_law_of" : Str) (defArgs s_law_of) (defBody s_law_of) (defScope s_law_of) [] [] (He.ga K ("_law_of" : Str)) (fds 20)
  b_law_of : Binds K (fds 20) [("_law_hand_here" : Str), ("_law_some" : Str)] []
  m_law_of : mg ("_law_of" : Str) = some (.ref (He.ga K ("_law_of" : Str)))
  f_law_keywords : FunD K ("_law_keywords" : Str) ("_law_keywords" : Str) (defArgs s_law_keywords) (defBody s_law_keywords) (defScope s_law_keywords) [] [] (He.ga K ("_law_keywords" : Str)) (fds 21)
  b_law_keywords : Binds K (fds 21) [] []
  m_law_keywords : mg ("_law_keywords" : Str) = some (.ref (He.ga K ("_law_keywords" : Str)))
  f_law_name : FunD K ("_law_name" : Str) ("_law_name" : Str) (defArgs s_law_name) (defBody s_law_name) (defScope s_law_name) [] [] (He.ga K ("_law_name" : Str)) (fds 22)
  b_law_name : Binds K (fds 22) [("_law_hand_here" : Str)] []
  m_law_name : mg ("_law_name" : Str) = some (.ref (He.ga K ("_law_name" : Str)))
  f_law_kind : FunD K ("_law_kind" : Str) ("_law_kind" : Str) (defArgs s_law_kind) (defBody s_law_kind) (defScope s_law_kind) [] [] (He.ga K ("_law_kind" : Str)) (fds 23)
  b_law_kind : Binds K (fds 23) [("_law_hand_here" : Str), ("_law_deep" : Str)] []
  m_law_kind : mg ("_law_kind" : Str) = some (.ref (He.ga K ("_law_kind" : Str)))
  f_law_num : FunD K ("_law_num" : Str) ("_law_num" : Str) (defArgs s_law_num) (defBody s_law_num) (defScope s_law_num) [] [] (He.ga K ("_law_num" : Str)) (fds 24)
  b_law_num : Binds K (fds 24) [("_law_hand_here" : Str)] []
  m_law_num : mg ("_law_num" : Str) = some (.ref (He.ga K ("_law_num" : Str)))
  f_law_arguments : FunD K ("_law_arguments" : Str) ("_law_arguments" : Str) (defArgs s_law_arguments) (defBody s_law_arguments) (defScope s_law_arguments) [] [] (He.ga K ("_law_arguments" : Str)) (fds 25)
  b_law_arguments : Binds K (fds 25) [("_law_hand_here" : Str), ("_law_deep" : Str), ("_law_room" : Str)] []
  m_law_arguments : mg ("_law_arguments" : Str) = some (.ref (He.ga K ("_law_arguments" : Str)))
  f_law_expression : FunD K ("_law_expression" : Str) ("_law_expression" : Str) (defArgs s_law_expression) (defBody s_law_expression) (defScope s_law_expression) [] [] (He.ga K ("_law_expression" : Str)) (fds 26)
  b_law_expression : Binds K (fds 26) [("_law_hand_here" : Str), ("_law_deep" : Str), ("_law_room" : Str)] []
  m_law_expression : mg ("_law_expression" : Str) = some (.ref (He.ga K ("_law_expression" : Str)))
  f_law_statement : FunD K ("_law_statement" : Str) ("_law_statement" : Str) (defArgs s_law_statement) (defBody s_law_statement) (defScope s_law_statement) [] [] (He.ga K ("_law_statement" : Str)) (fds 27)
  b_law_statement : Binds K (fds 27) [("_law_hand_here" : Str), ("_law_deep" : Str), ("_law_room" : Str)] []
  m_law_statement : mg ("_law_statement" : Str) = some (.ref (He.ga K ("_law_statement" : Str)))
  f_law_block : FunD K ("_law_block" : Str) ("_law_block" : Str) (defArgs s_law_block) (defBody s_law_block) (defScope s_law_block) [] [] (He.ga K ("_law_block" : Str)) (fds 28)
  b_law_block : Binds K (fds 28) [("_law_hand_here" : Str), ("_law_deep" : Str), ("_law_room" : Str)] []
  m_law_block : mg ("_law_block" : Str) = some (.ref (He.ga K ("_law_block" : Str)))
  f_law_odd : FunD K ("_law_odd" : Str) ("_law_odd" : Str) (defArgs s_law_odd) (defBody s_law_odd) (defScope s_law_odd) [] [] (He.ga K ("_law_odd" : Str)) (fds 29)
  b_law_odd : Binds K (fds 29) [("_law_hand_here" : Str), ("_law_name_here" : Str)] []
  m_law_odd : mg ("_law_odd" : Str) = some (.ref (He.ga K ("_law_odd" : Str)))
  f_law_spoilt : FunD K ("_law_spoilt" : Str) ("_law_spoilt" : Str) (defArgs s_law_spoilt) (defBody s_law_spoilt) (defScope s_law_spoilt) [] [] (He.ga K ("_law_spoilt" : Str)) (fds 30)
  b_law_spoilt : Binds K (fds 30) [("_law_hand_here" : Str), ("_law_thing" : Str)] []
  m_law_spoilt : mg ("_law_spoilt" : Str) = some (.ref (He.ga K ("_law_spoilt" : Str)))
  f_law_is_name : FunD K ("_law_is_name" : Str) ("_law_is_name" : Str) (defArgs s_law_is_name) (defBody s_law_is_name) (defScope s_law_is_name) [] [] (He.ga K ("_law_is_name" : Str)) (fds 31)
  b_law_is_name : Binds K (fds 31) [("_law_thing" : Str)] []
  m_law_is_name : mg ("_law_is_name" : Str) = some (.ref (He.ga K ("_law_is_name" : Str)))
  f_law_is_num : FunD K ("_law_is_num" : Str) ("_law_is_num" : Str) (defArgs s_law_is_num) (defBody s_law_is_num) (defScope s_law_is_num) [] [] (He.ga K ("_law_is_num" : Str)) (fds 32)
  b_law_is_num : Binds K (fds 32) [("_law_thing" : Str)] []
  m_law_is_num : mg ("_law_is_num" : Str) = some (.ref (He.ga K ("_law_is_num" : Str)))
  f_law_is_kind : FunD K ("_law_is_kind" : Str) ("_law_is_kind" : Str) (defArgs s_law_is_kind) (defBody s_law_is_kind) (defScope s_law_is_kind) [] [] (He.ga K ("_law_is_kind" : Str)) (fds 33)
  b_law_is_kind : Binds K (fds 33) [("_law_thing" : Str), ("_law_deep" : Str)] []
  m_law_is_kind : mg ("_law_is_kind" : Str) = some (.ref (He.ga K ("_law_is_kind" : Str)))
  f_law_is_argument : FunD K ("_law_is_argument" : Str) ("_law_is_argument" : Str) (defArgs s_law_is_argument) (defBody s_law_is_argument) (defScope s_law_is_argument) [] [] (He.ga K ("_law_is_argument" : Str)) (fds 34)
  b_law_is_argument : Binds K (fds 34) [("_law_thing" : Str), ("_law_deep" : Str)] []
  m_law_is_argument : mg ("_law_is_argument" : Str) = some (.ref (He.ga K ("_law_is_argument" : Str)))
  f_law_is_expression : FunD K ("_law_is_expression" : Str) ("_law_is_expression" : Str) (defArgs s_law_is_expression) (defBody s_law_is_expression) (defScope s_law_is_expression) [] [] (He.ga K ("_law_is_expression" : Str)) (fds 35)
  b_law_is_expression : Binds K (fds 35) [("_law_thing" : Str), ("_law_deep" : Str)] []
  m_law_is_expression : mg ("_law_is_expression" : Str) = some (.ref (He.ga K ("_law_is_expression" : Str)))
  f_law_is_statement : FunD K ("_law_is_statement" : Str) ("_law_is_statement" : Str) (defArgs s_law_is_statement) (defBody s_law_is_statement) (defScope s_law_is_statement) [] [] (He.ga K ("_law_is_statement" : Str)) (fds 36)
  b_law_is_statement : Binds K (fds 36) [("_law_thing" : Str), ("_law_left" : Str)] []
  m_law_is_statement : mg ("_law_is_statement" : Str) = some (.ref (He.ga K ("_law_is_statement" : Str)))
  f_law_is_block : FunD K ("_law_is_block" : Str) ("_law_is_block" : Str) (defArgs s_law_is_block) (defBody s_law_is_block) (defScope s_law_is_block) [] [] (He.ga K ("_law_is_block" : Str)) (fds 37)
  b_law_is_block : Binds K (fds 37) [("_law_thing" : Str), ("_law_left" : Str)] []
  m_law_is_block : mg ("_law_is_block" : Str) = some (.ref (He.ga K ("_law_is_block" : Str)))
  f_law : FunD K ("law" : Str) ("law" : Str) (defArgs s_law) (defBody s_law) (defScope s_law) [] [] (He.ga K ("law" : Str)) (fds 38)
  b_law : Binds K (fds 38) [("_law_script" : Str)] []
  m_law : mg ("law" : Str) = some (.ref (He.ga K ("law" : Str)))
  z_abs : mg ("abs" : Str) = none
  z_all : mg ("all" : Str) = none
  z_bool : mg ("bool" : Str) = none
  z_int : mg ("int" : Str) = none
  z_isinstance : mg ("isinstance" : Str) = none
  z_len : mg ("len" : Str) = none
  z_list : mg ("list" : Str) = none
  z_max : mg ("max" : Str) = none
  z_min : mg ("min" : Str) = none
  z_range : mg ("range" : Str) = none
  z_str : mg ("str" : Str) = none
  z_tuple : mg ("tuple" : Str) = none
  z_zip : mg ("zip" : Str) = none
  g_LETTERS : ∃ u v, mg ("LETTERS" : Str) = some u ∧ RelV v u ∧ ∀ H A, RepD K H A (.str ("abcdefghijklmnopqrstuvwxyz" : Str)) v
  g_MOST_LETTERS : ∃ u v, mg ("MOST_LETTERS" : Str) = some u ∧ RelV v u ∧ ∀ H A, RepD K H A (.int 6) v
  g_MOST_NUM : ∃ u v, mg ("MOST_NUM" : Str) = some u ∧ RelV v u ∧ ∀ H A, RepD K H A (.int 1000000000) v
  g_SIGNS : ∃ u v, mg ("SIGNS" : Str) = some u ∧ RelV v u ∧ ∀ H A, RepD K H A (.tuple [.str ("+" : Str), .str ("-" : Str), .str ("*" : Str), .str ("/" : Str), .str ("<" : Str), .str ("=" : Str)]) v
  g_KEYWORDS : ∃ u v, mg ("KEYWORDS" : Str) = some u ∧ RelV v u ∧ ∀ H A, RepD K H A (.tuple [.str ("body" : Str), .str ("of" : Str), .str ("T" : Str), .str ("take" : Str), .str ("look" : Str), .str ("alter" : Str), .str ("gives" : Str), .str ("end" : Str), .str ("let" : Str), .str ("split" : Str), .str ("set" : Str), .str ("put" : Str), .str ("say" : Str), .str ("do" : Str), .str ("drop" : Str), .str ("give" : Str), .str ("fail" : Str), .str ("poke" : Str), .str ("free" : Str), .str ("if" : Str), .str ("else" : Str), .str ("while" : Str), .str ("as" : Str), .str ("fence" : Str), .str ("num" : Str), .str ("box" : Str), .str ("pair" : Str), .str ("unbox" : Str), .str ("see" : Str), .str ("loose" : Str), .str ("peek" : Str), .str ("call" : Str)]) v
  g_MOST_KIND : ∃ u v, mg ("MOST_KIND" : Str) = some u ∧ RelV v u ∧ ∀ H A, RepD K H A (.int 6) v
  g_MOST_EXPRESSION : ∃ u v, mg ("MOST_EXPRESSION" : Str) = some u ∧ RelV v u ∧ ∀ H A, RepD K H A (.int 5) v
  g_MOST_BLOCK : ∃ u v, mg ("MOST_BLOCK" : Str) = some u ∧ RelV v u ∧ ∀ H A, RepD K H A (.int 5) v
  g_MOST_PARAMS : ∃ u v, mg ("MOST_PARAMS" : Str) = some u ∧ RelV v u ∧ ∀ H A, RepD K H A (.int 4) v
  g_MOST_ARGUMENTS : ∃ u v, mg ("MOST_ARGUMENTS" : Str) = some u ∧ RelV v u ∧ ∀ H A, RepD K H A (.int 4) v
  g_NUM : ∃ u v, mg ("NUM" : Str) = some u ∧ RelV v u ∧ ∀ H A, RepD K H A (.str ("num" : Str)) v
  g_LETTER : ∃ u v, mg ("LETTER" : Str) = some u ∧ RelV v u ∧ ∀ H A, RepD K H A (.str ("T" : Str)) v
  g_MODES : ∃ u v, mg ("MODES" : Str) = some u ∧ RelV v u ∧ ∀ H A, RepD K H A (.tuple [.str ("take" : Str), .str ("look" : Str), .str ("alter" : Str)]) v
  t_WITHIN : GDict K w (He.ga K ("WITHIN" : Str)) t_WITHIN
  m_WITHIN : mg ("WITHIN" : Str) = some (.ref (He.ga K ("WITHIN" : Str)))
  t_EXPRESSIONS : GDict K w (He.ga K ("EXPRESSIONS" : Str)) t_EXPRESSIONS
  m_EXPRESSIONS : mg ("EXPRESSIONS" : Str) = some (.ref (He.ga K ("EXPRESSIONS" : Str)))
  t_STATEMENTS : GDict K w (He.ga K ("STATEMENTS" : Str)) t_STATEMENTS
  m_STATEMENTS : mg ("STATEMENTS" : Str) = some (.ref (He.ga K ("STATEMENTS" : Str)))
structure AllOk (P : Program) (w : World) (K : PySem.W.Frag) (mg : Str → Option Value) (base : Heap) (fds : Nat → FuncData) (k : Nat) (F : Fs) : Prop where
  is_name : FnOk P w K mg base CX0 k (He.ga K ("is_name" : Str)) (fds 0) [("thing" : Str)] (spF K 1 [] F.is_name)
  is_whole : FnOk P w K mg base CX0 k (He.ga K ("is_whole" : Str)) (fds 1) [("thing" : Str)] (spF K 1 [] F.is_whole)
  is_num : FnOk P w K mg base CX0 k (He.ga K ("is_num" : Str)) (fds 2) [("thing" : Str)] (spF K 1 [] F.is_num)
  is_sign : FnOk P w K mg base CX0 k (He.ga K ("is_sign" : Str)) (fds 3) [("thing" : Str)] (spF K 1 [] F.is_sign)
  is_row_of : FnOk P w K mg base CX0 k (He.ga K ("is_row_of" : Str)) (fds 4) [("thing" : Str), ("many" : Str)] (spF K 2 [] F.is_row_of)
  is_mode : FnOk P w K mg base CX0 k (He.ga K ("is_mode" : Str)) (fds 5) [("thing" : Str)] (spF K 1 [] F.is_mode)
  first_word : FnOk P w K mg base CX0 k (He.ga K ("first_word" : Str)) (fds 6) [("thing" : Str)] (spF K 1 [] F.first_word)
  is_kind_within : FnOk P w K mg base CX0 k (He.ga K ("is_kind_within" : Str)) (fds 7) [("thing" : Str), ("deep" : Str)] (spF K 2 [] F.is_kind_within)
  is_kind : FnOk P w K mg base CX0 k (He.ga K ("is_kind" : Str)) (fds 8) [("thing" : Str)] (spF K 1 [] F.is_kind)
  is_argument : FnOk P w K mg base CX0 k (He.ga K ("is_argument" : Str)) (fds 9) [("thing" : Str), ("deep" : Str)] (spF K 2 [] F.is_argument)
  are_arguments : FnOk P w K mg base CX0 k (He.ga K ("are_arguments" : Str)) (fds 10) [("thing" : Str), ("deep" : Str)] (spF K 2 [] F.are_arguments)
  is_part : FnOk P w K mg base CX0 k (He.ga K ("is_part" : Str)) (fds 11) [("form" : Str), ("thing" : Str), ("deep" : Str)] (spF K 3 [] F.is_part)
  is_expression : FnOk P w K mg base CX0 k (He.ga K ("is_expression" : Str)) (fds 12) [("thing" : Str), ("deep" : Str)] (spF K 2 [] F.is_expression)
  is_statement : FnOk P w K mg base CX0 k (He.ga K ("is_statement" : Str)) (fds 13) [("thing" : Str), ("deep" : Str)] (spF K 2 [] F.is_statement)
  is_block : FnOk P w K mg base CX0 k (He.ga K ("is_block" : Str)) (fds 14) [("thing" : Str), ("deep" : Str)] (spF K 2 [] F.is_block)
  is_param : FnOk P w K mg base CX0 k (He.ga K ("is_param" : Str)) (fds 15) [("thing" : Str)] (spF K 1 [] F.is_param)
  is_body : FnOk P w K mg base CX0 k (He.ga K ("is_body" : Str)) (fds 16) [("thing" : Str)] (spF K 1 [] F.is_body)
  is_program : FnOk P w K mg base CX0 k (He.ga K ("is_program" : Str)) (fds 17) [("thing" : Str)] (spF K 1 [] F.is_program)
  law_hand : FnOk P w K mg base CX0 k (He.ga K ("_law_hand" : Str)) (fds 18) [("_law_script" : Str), ("_law_k" : Str)] (spL K 2 [] F.law_hand)
  law_take : FnOk P w K mg base CX0 k (He.ga K ("_law_take" : Str)) (fds 19) [("_law_hand_here" : Str), ("_law_many" : Str)] (spF K 2 [0] F.law_take)
  law_of : FnOk P w K mg base CX0 k (He.ga K ("_law_of" : Str)) (fds 20) [("_law_hand_here" : Str), ("_law_some" : Str)] (spF K 2 [0] F.law_of)
  law_keywords : FnOk P w K mg base CX0 k (He.ga K ("_law_keywords" : Str)) (fds 21) [] (spF K 0 [] F.law_keywords)
  law_name : FnOk P w K mg base CX0 k (He.ga K ("_law_name" : Str)) (fds 22) [("_law_hand_here" : Str)] (spF K 1 [0] F.law_name)
  law_kind : FnOk P w K mg base CX0 k (He.ga K ("_law_kind" : Str)) (fds 23) [("_law_hand_here" : Str), ("_law_deep" : Str)] (spF K 2 [0] F.law_kind)
  law_num : FnOk P w K mg base CX0 k (He.ga K ("_law_num" : Str)) (fds 24) [("_law_hand_here" : Str)] (spF K 1 [0] F.law_num)
  law_arguments : FnOk P w K mg base CX0 k (He.ga K ("_law_arguments" : Str)) (fds 25) [("_law_hand_here" : Str), ("_law_deep" : Str), ("_law_room" : Str)] (spF K 3 [0, 2] F.law_arguments)
  law_expression : FnOk P w K mg base CX0 k (He.ga K ("_law_expression" : Str)) (fds 26) [("_law_hand_here" : Str), ("_law_deep" : Str), ("_law_room" : Str)] (spF K 3 [0, 2] F.law_expression)
  law_statement : FnOk P w K mg base CX0 k (He.ga K ("_law_statement" : Str)) (fds 27) [("_law_hand_here" : Str), ("_law_deep" : Str), ("_law_room" : Str)] (spF K 3 [0, 2] F.law_statement)
  law_block : FnOk P w K mg base CX0 k (He.ga K ("_law_block" : Str)) (fds 28) [("_law_hand_here" : Str), ("_law_deep" : Str), ("_law_room" : Str)] (spF K 3 [0, 2] F.law_block)
  law_odd : FnOk P w K mg base CX0 k (He.ga K ("_law_odd" : Str)) (fds 29) [("_law_hand_here" : Str), ("_law_name_here" : Str)] (spF K 2 [0] F.law_odd)
  law_spoilt : FnOk P w K mg base CX0 k (He.ga K ("_law_spoilt" : Str)) (fds 30) [("_law_hand_here" : Str), ("_law_thing" : Str)] (spF K 2 [0] F.law_spoilt)
  law_is_name : FnOk P w K mg base CX0 k (He.ga K ("_law_is_name" : Str)) (fds 31) [("_law_thing" : Str)] (spF K 1 [] F.law_is_name)
  law_is_num : FnOk P w K mg base CX0 k (He.ga K ("_law_is_num" : Str)) (fds 32) [("_law_thing" : Str)] (spF K 1 [] F.law_is_num)
  law_is_kind : FnOk P w K mg base CX0 k (He.ga K ("_law_is_kind" : Str)) (fds 33) [("_law_thing" : Str), ("_law_deep" : Str)] (spF K 2 [] F.law_is_kind)
  law_is_argument : FnOk P w K mg base CX0 k (He.ga K ("_law_is_argument" : Str)) (fds 34) [("_law_thing" : Str), ("_law_deep" : Str)] (spF K 2 [] F.law_is_argument)
  law_is_expression : FnOk P w K mg base CX0 k (He.ga K ("_law_is_expression" : Str)) (fds 35) [("_law_thing" : Str), ("_law_deep" : Str)] (spF K 2 [] F.law_is_expression)
  law_is_statement : FnOk P w K mg base CX0 k (He.ga K ("_law_is_statement" : Str)) (fds 36) [("_law_thing" : Str), ("_law_left" : Str)] (spF K 2 [] F.law_is_statement)
  law_is_block : FnOk P w K mg base CX0 k (He.ga K ("_law_is_block" : Str)) (fds 37) [("_law_thing" : Str), ("_law_left" : Str)] (spF K 2 [] F.law_is_block)
  law : FnOk P w K mg base CX0 k (He.ga K ("law" : Str)) (fds 38) [("_law_script" : Str)] (spF K 1 [] F.law)
section
variable {P : Program} {w : World} {K : PySem.W.Frag} {mg : Str → Option Value} {base : Heap} {fds : Nat → FuncData} {k : Nat} {F : Fs}
theorem sc_is_name : FnScope [("thing" : Str), ("sign" : Str)] [("thing" : Str)] (defScope s_is_name) := ⟨rfl, rfl, rfl, by decide +kernel, rfl, by decide +kernel, by decide +kernel⟩
theorem ok_is_name (T : Tp w K mg fds) (G : AllOk P w K mg base fds k F) : FnOk P w K mg base CX0 (k + 1) (He.ga K ("is_name" : Str)) (fds 0) [("thing" : Str)] (spF K 1 [] (step F).is_name) := by
  refine fn_ok T.f_is_name sc_is_name rfl fun cdv A outer s H E hr => ?_
  have hu := hr.units
  have nd := (sc_is_name).nd
  exact (ds_cons (ds_if (PW.pt (dw_or (dt_not (dt_val (de_isi kb_str (by rfl) T.z_isinstance (de_var (pv 0 rfl (.inl rfl))) (pe_bltn (v := .ty "str") (by rfl) T.z_str boot_str rfl)))) (dw_or (dt_not (dt_chain op_le (rs_rel _) op_le (rs_rel _) de_int (de_callB call_len cs_len (by rfl) T.z_len boot_len (da_v (de_var (pv 0 rfl (.inl rfl))) da_nil)) (de_glob (by rfl) T.g_MOST_LETTERS))) (dw_or1 (dt_cmp op_inA rs_in (de_var (pv 0 rfl (.inl rfl))) (de_glob (by rfl) T.g_KEYWORDS) (by rfl)))))) (ds_one (ds_ret de_bl)) ds_nil)
    (ds_one (ds_ret (de_callB (cr_all rfl) cs_all (by rfl) T.z_all boot_all (da_v (ld_val (ll_lc (own := [(("sign" : Str), 1)]) (tok_n (by decide)) (tin_n (by decide)) rfl nd (di_str (de_var (pv 0 rfl (.inl rfl)))) (blkOk_by (show blkC [("thing" : Str), ("sign" : Str)] (defScope s_is_name) _ _ = true by decide +kernel)) (fun _ _ _ _ _ => (dg_name (pg_name (i := 1) nd rfl (Or.inl rfl)))) (fun _ _ _ _ _ => dts_nil) (fun _ _ _ _ _ => (de_cmp op_inA rs_in (de_var (pv 1 rfl (.inl rfl))) (de_glob (by rfl) T.g_LETTERS) (by rfl))))) da_nil)))))
theorem sc_is_whole : FnScope [("thing" : Str)] [("thing" : Str)] (defScope s_is_whole) := ⟨rfl, rfl, rfl, by decide +kernel, rfl, by decide +kernel, by decide +kernel⟩
theorem ok_is_whole (T : Tp w K mg fds) (G : AllOk P w K mg base fds k F) : FnOk P w K mg base CX0 (k + 1) (He.ga K ("is_whole" : Str)) (fds 1) [("thing" : Str)] (spF K 1 [] (step F).is_whole) := by
  refine fn_ok T.f_is_whole sc_is_whole rfl fun cdv A outer s H E hr => ?_
  have hu := hr.units
  have nd := (sc_is_whole).nd
  exact (ds_one (ds_ret (de_and (de_isi kb_int (by rfl) T.z_isinstance (de_var (pv 0 rfl (.inl rfl))) (pe_bltn (v := .ty "int") (by rfl) T.z_int boot_int rfl)) (de_one (de_not (de_isi kb_bool (by rfl) T.z_isinstance (de_var (pv 0 rfl (.inl rfl))) (pe_bltn (v := .ty "bool") (by rfl) T.z_bool boot_bool rfl)))))))
theorem sc_is_num : FnScope [("thing" : Str)] [("thing" : Str)] (defScope s_is_num) := ⟨rfl, rfl, rfl, by decide +kernel, rfl, by decide +kernel, by decide +kernel⟩
theorem ok_is_num (T : Tp w K mg fds) (G : AllOk P w K mg base fds k F) : FnOk P w K mg base CX0 (k + 1) (He.ga K ("is_num" : Str)) (fds 2) [("thing" : Str)] (spF K 1 [] (step F).is_num) := by
  refine fn_ok T.f_is_num sc_is_num rfl fun cdv A outer s H E hr => ?_
  have hu := hr.units
  have nd := (sc_is_num).nd
  exact (ds_one (ds_ret (de_and (de_call G.is_whole hr (by rfl) T.m_is_whole T.f_is_whole.kp T.b_is_whole (da_v (de_var (pv 0 rfl (.inl rfl))) da_nil) (alen_v alen_nil)) (de_one (de_chain op_le (rs_rel _) op_le (rs_rel _) (de_bin op_sub rs_sub de_int (de_glob (by rfl) T.g_MOST_NUM)) (de_var (pv 0 rfl (.inl rfl))) (de_glob (by rfl) T.g_MOST_NUM))))))
theorem sc_is_sign : FnScope [("thing" : Str)] [("thing" : Str)] (defScope s_is_sign) := ⟨rfl, rfl, rfl, by decide +kernel, rfl, by decide +kernel, by decide +kernel⟩
theorem ok_is_sign (T : Tp w K mg fds) (G : AllOk P w K mg base fds k F) : FnOk P w K mg base CX0 (k + 1) (He.ga K ("is_sign" : Str)) (fds 3) [("thing" : Str)] (spF K 1 [] (step F).is_sign) := by
  refine fn_ok T.f_is_sign sc_is_sign rfl fun cdv A outer s H E hr => ?_
  have hu := hr.units
  have nd := (sc_is_sign).nd
  exact (ds_one (ds_ret (de_and (de_isi kb_str (by rfl) T.z_isinstance (de_var (pv 0 rfl (.inl rfl))) (pe_bltn (v := .ty "str") (by rfl) T.z_str boot_str rfl)) (de_one (de_cmp op_inA rs_in (de_var (pv 0 rfl (.inl rfl))) (de_glob (by rfl) T.g_SIGNS) (by rfl))))))
theorem sc_is_row_of : FnScope [("thing" : Str), ("many" : Str)] [("thing" : Str), ("many" : Str)] (defScope s_is_row_of) := ⟨rfl, rfl, rfl, by decide +kernel, rfl, by decide +kernel, by decide +kernel⟩
theorem ok_is_row_of (T : Tp w K mg fds) (G : AllOk P w K mg base fds k F) : FnOk P w K mg base CX0 (k + 1) (He.ga K ("is_row_of" : Str)) (fds 4) [("thing" : Str), ("many" : Str)] (spF K 2 [] (step F).is_row_of) := by
  refine fn_ok T.f_is_row_of sc_is_row_of rfl fun cdv A outer s H E hr => ?_
  have hu := hr.units
  have nd := (sc_is_row_of).nd
  exact (ds_one (ds_ret (de_and (de_isi kb_tup (by rfl) T.z_isinstance (de_var (pv 0 rfl (.inl rfl))) (pe_bltn (v := .ty "tuple") (by rfl) T.z_tuple boot_tuple rfl)) (de_one (de_cmp (op_eqA hu) rs_eq (de_callB call_len cs_len (by rfl) T.z_len boot_len (da_v (de_var (pv 0 rfl (.inl rfl))) da_nil)) (de_var (pv 1 rfl (.inl rfl))) (nomark _))))))
theorem sc_is_mode : FnScope [("thing" : Str)] [("thing" : Str)] (defScope s_is_mode) := ⟨rfl, rfl, rfl, by decide +kernel, rfl, by decide +kernel, by decide +kernel⟩
theorem ok_is_mode (T : Tp w K mg fds) (G : AllOk P w K mg base fds k F) : FnOk P w K mg base CX0 (k + 1) (He.ga K ("is_mode" : Str)) (fds 5) [("thing" : Str)] (spF K 1 [] (step F).is_mode) := by
  refine fn_ok T.f_is_mode sc_is_mode rfl fun cdv A outer s H E hr => ?_
  have hu := hr.units
  have nd := (sc_is_mode).nd
  exact (ds_one (ds_ret (de_and (de_isi kb_str (by rfl) T.z_isinstance (de_var (pv 0 rfl (.inl rfl))) (pe_bltn (v := .ty "str") (by rfl) T.z_str boot_str rfl)) (de_one (de_cmp op_inA rs_in (de_var (pv 0 rfl (.inl rfl))) (de_glob (by rfl) T.g_MODES) (by rfl))))))
theorem sc_first_word : FnScope [("thing" : Str)] [("thing" : Str)] (defScope s_first_word) := ⟨rfl, rfl, rfl, by decide +kernel, rfl, by decide +kernel, by decide +kernel⟩
theorem ok_first_word (T : Tp w K mg fds) (G : AllOk P w K mg base fds k F) : FnOk P w K mg base CX0 (k + 1) (He.ga K ("first_word" : Str)) (fds 6) [("thing" : Str)] (spF K 1 [] (step F).first_word) := by
  refine fn_ok T.f_first_word sc_first_word rfl fun cdv A outer s H E hr => ?_
  have hu := hr.units
  have nd := (sc_first_word).nd
  exact (ds_cons (ds_if (PW.pt (dw_or (dt_not (dt_val (de_isi kb_tup (by rfl) T.z_isinstance (de_var (pv 0 rfl (.inl rfl))) (pe_bltn (v := .ty "tuple") (by rfl) T.z_tuple boot_tuple rfl)))) (dw_or (dt_cmp (op_eqA hu) rs_eq (de_var (pv 0 rfl (.inl rfl))) (de_tup da_nil) (nomark _)) (dw_or1 (dt_not (dt_val (de_isi kb_str (by rfl) T.z_isinstance (de_ix ix_seq rs_ix (de_var (pv 0 rfl (.inl rfl))) de_int (fun _ _ => rfl)) (pe_bltn (v := .ty "str") (by rfl) T.z_str boot_str rfl)))))))) (ds_one (ds_ret (de_str (by decide)))) ds_nil)
    (ds_one (ds_ret (de_ix ix_seq rs_ix (de_var (pv 0 rfl (.inl rfl))) de_int (fun _ _ => rfl)))))
theorem sc_is_kind_within : FnScope [("thing" : Str), ("deep" : Str), ("word" : Str), ("kind" : Str)] [("thing" : Str), ("deep" : Str)] (defScope s_is_kind_within) := ⟨rfl, rfl, rfl, by decide +kernel, rfl, by decide +kernel, by decide +kernel⟩
theorem ok_is_kind_within (T : Tp w K mg fds) (G : AllOk P w K mg base fds k F) : FnOk P w K mg base CX0 (k + 1) (He.ga K ("is_kind_within" : Str)) (fds 7) [("thing" : Str), ("deep" : Str)] (spF K 2 [] (step F).is_kind_within) := by
  refine fn_ok T.f_is_kind_within sc_is_kind_within rfl fun cdv A outer s H E hr => ?_
  have hu := hr.units
  have nd := (sc_is_kind_within).nd
  exact (ds_cons (ds_if (dt_cmp (op_eqA hu) rs_eq (de_var (pv 1 rfl (.inr (.inl rfl)))) de_int (nomark _)) (ds_one (ds_ret de_bl)) ds_nil)
    (ds_cons (ds_if (dt_val (de_isi kb_str (by rfl) T.z_isinstance (de_var (pv 0 rfl (.inl rfl))) (pe_bltn (v := .ty "str") (by rfl) T.z_str boot_str rfl))) (ds_one (ds_ret (de_cmp op_inA rs_in (de_var (pv 0 rfl (.inl rfl))) (de_tup (da_v (de_glob (by rfl) T.g_NUM) (da_v (de_glob (by rfl) T.g_LETTER) da_nil))) (by rfl)))) ds_nil)
    (ds_cons (ds_set (by decide) (fun h => ps_set (i := 2) nd rfl (Or.inl rfl) h) (de_call G.first_word hr (by rfl) T.m_first_word T.f_first_word.kp T.b_first_word (da_v (de_var (pv 0 rfl (.inl rfl))) da_nil) (alen_v alen_nil)))
    (ds_cons (ds_if (PW.pt (dw_or (dt_notInT T.t_WITHIN (de_var (pv 2 rfl (.inl rfl))) (by rfl) T.m_WITHIN) (dw_or1 (dt_cmp (op_neA hu) rs_ne (de_callB call_len cs_len (by rfl) T.z_len boot_len (da_v (de_var (pv 0 rfl (.inl rfl))) da_nil)) (de_bin op_addD rs_add de_int (de_ixT T.t_WITHIN (de_var (pv 2 rfl (.inl rfl))) (by rfl) T.m_WITHIN (fun _ _ => rfl))) (nomark _))))) (ds_one (ds_ret de_bl)) ds_nil)
    (ds_one (ds_ret (de_callB (cr_all rfl) cs_all (by rfl) T.z_all boot_all (da_v (ld_val (ll_lc (own := [(("kind" : Str), 3)]) (tok_n (by decide)) (tin_n (by decide)) rfl nd (di_tup (de_sl (de_var (pv 0 rfl (.inl rfl))) (do_some de_int) do_none)) (blkOk_by (show blkC [("thing" : Str), ("deep" : Str), ("word" : Str), ("kind" : Str)] (defScope s_is_kind_within) _ _ = true by decide +kernel)) (fun _ _ _ _ _ => (dg_name (pg_name (i := 3) nd rfl (Or.inl rfl)))) (fun _ _ _ _ _ => dts_nil) (fun _ _ _ _ _ => (de_call G.is_kind_within hr (by rfl) T.m_is_kind_within T.f_is_kind_within.kp T.b_is_kind_within (da_v (de_var (pv 3 rfl (.inl rfl))) (da_v (de_bin op_sub rs_sub (de_var (pv 1 rfl (.inr (.inl rfl)))) de_int) da_nil)) (alen_v (alen_v alen_nil)))))) da_nil))))))))
theorem sc_is_kind : FnScope [("thing" : Str)] [("thing" : Str)] (defScope s_is_kind) := ⟨rfl, rfl, rfl, by decide +kernel, rfl, by decide +kernel, by decide +kernel⟩
theorem ok_is_kind (T : Tp w K mg fds) (G : AllOk P w K mg base fds k F) : FnOk P w K mg base CX0 (k + 1) (He.ga K ("is_kind" : Str)) (fds 8) [("thing" : Str)] (spF K 1 [] (step F).is_kind) := by
  refine fn_ok T.f_is_kind sc_is_kind rfl fun cdv A outer s H E hr => ?_
  have hu := hr.units
  have nd := (sc_is_kind).nd
  exact (ds_one (ds_ret (de_call G.is_kind_within hr (by rfl) T.m_is_kind_within T.f_is_kind_within.kp T.b_is_kind_within (da_v (de_var (pv 0 rfl (.inl rfl))) (da_v (de_glob (by rfl) T.g_MOST_KIND) da_nil)) (alen_v (alen_v alen_nil)))))
theorem sc_is_argument : FnScope [("thing" : Str), ("deep" : Str)] [("thing" : Str), ("deep" : Str)] (defScope s_is_argument) := ⟨rfl, rfl, rfl, by decide +kernel, rfl, by decide +kernel, by decide +kernel⟩
theorem ok_is_argument (T : Tp w K mg fds) (G : AllOk P w K mg base fds k F) : FnOk P w K mg base CX0 (k + 1) (He.ga K ("is_argument" : Str)) (fds 9) [("thing" : Str), ("deep" : Str)] (spF K 2 [] (step F).is_argument) := by
  refine fn_ok T.f_is_argument sc_is_argument rfl fun cdv A outer s H E hr => ?_
  have hu := hr.units
  have nd := (sc_is_argument).nd
  exact (ds_cons (ds_if (PW.pt (dw_or (dt_not (dt_val (de_call G.is_row_of hr (by rfl) T.m_is_row_of T.f_is_row_of.kp T.b_is_row_of (da_v (de_var (pv 0 rfl (.inl rfl))) (da_v de_int da_nil)) (alen_v (alen_v alen_nil))))) (dw_or1 (dt_not (dt_val (de_call G.is_mode hr (by rfl) T.m_is_mode T.f_is_mode.kp T.b_is_mode (da_v (de_ix ix_seq rs_ix (de_var (pv 0 rfl (.inl rfl))) de_int (fun _ _ => rfl)) da_nil) (alen_v alen_nil))))))) (ds_one (ds_ret de_bl)) ds_nil)
    (ds_one (ds_ret (de_if (dt_cmp (op_eqA hu) rs_eq (de_ix ix_seq rs_ix (de_var (pv 0 rfl (.inl rfl))) de_int (fun _ _ => rfl)) (de_str (by decide)) (nomark _)) (de_call G.is_expression hr (by rfl) T.m_is_expression T.f_is_expression.kp T.b_is_expression (da_v (de_ix ix_seq rs_ix (de_var (pv 0 rfl (.inl rfl))) de_int (fun _ _ => rfl)) (da_v (de_var (pv 1 rfl (.inl rfl))) da_nil)) (alen_v (alen_v alen_nil))) (de_call G.is_name hr (by rfl) T.m_is_name T.f_is_name.kp T.b_is_name (da_v (de_ix ix_seq rs_ix (de_var (pv 0 rfl (.inl rfl))) de_int (fun _ _ => rfl)) da_nil) (alen_v alen_nil))))))
theorem sc_are_arguments : FnScope [("thing" : Str), ("deep" : Str), ("argument" : Str)] [("thing" : Str), ("deep" : Str)] (defScope s_are_arguments) := ⟨rfl, rfl, rfl, by decide +kernel, rfl, by decide +kernel, by decide +kernel⟩
theorem ok_are_arguments (T : Tp w K mg fds) (G : AllOk P w K mg base fds k F) : FnOk P w K mg base CX0 (k + 1) (He.ga K ("are_arguments" : Str)) (fds 10) [("thing" : Str), ("deep" : Str)] (spF K 2 [] (step F).are_arguments) := by
  refine fn_ok T.f_are_arguments sc_are_arguments rfl fun cdv A outer s H E hr => ?_
  have hu := hr.units
  have nd := (sc_are_arguments).nd
  exact (ds_cons (ds_if (PW.pt (dw_or (dt_not (dt_val (de_isi kb_tup (by rfl) T.z_isinstance (de_var (pv 0 rfl (.inl rfl))) (pe_bltn (v := .ty "tuple") (by rfl) T.z_tuple boot_tuple rfl)))) (dw_or1 (dt_cmp op_gt (rs_rel _) (de_callB call_len cs_len (by rfl) T.z_len boot_len (da_v (de_var (pv 0 rfl (.inl rfl))) da_nil)) (de_glob (by rfl) T.g_MOST_ARGUMENTS) (nomark _))))) (ds_one (ds_ret de_bl)) ds_nil)
    (ds_one (ds_ret (de_callB (cr_all rfl) cs_all (by rfl) T.z_all boot_all (da_v (ld_val (ll_lc (own := [(("argument" : Str), 2)]) (tok_n (by decide)) (tin_n (by decide)) rfl nd (di_tup (de_var (pv 0 rfl (.inl rfl)))) (blkOk_by (show blkC [("thing" : Str), ("deep" : Str), ("argument" : Str)] (defScope s_are_arguments) _ _ = true by decide +kernel)) (fun _ _ _ _ _ => (dg_name (pg_name (i := 2) nd rfl (Or.inl rfl)))) (fun _ _ _ _ _ => dts_nil) (fun _ _ _ _ _ => (de_call G.is_argument hr (by rfl) T.m_is_argument T.f_is_argument.kp T.b_is_argument (da_v (de_var (pv 2 rfl (.inl rfl))) (da_v (de_var (pv 1 rfl (.inr (.inl rfl)))) da_nil)) (alen_v (alen_v alen_nil)))))) da_nil)))))
theorem sc_is_part : FnScope [("form" : Str), ("thing" : Str), ("deep" : Str)] [("form" : Str), ("thing" : Str), ("deep" : Str)] (defScope s_is_part) := ⟨rfl, rfl, rfl, by decide +kernel, rfl, by decide +kernel, by decide +kernel⟩
theorem ok_is_part (T : Tp w K mg fds) (G : AllOk P w K mg base fds k F) : FnOk P w K mg base CX0 (k + 1) (He.ga K ("is_part" : Str)) (fds 11) [("form" : Str), ("thing" : Str), ("deep" : Str)] (spF K 3 [] (step F).is_part) := by
  refine fn_ok T.f_is_part sc_is_part rfl fun cdv A outer s H E hr => ?_
  have hu := hr.units
  have nd := (sc_is_part).nd
  exact (ds_cons (ds_if (dt_cmp (op_eqA hu) rs_eq (de_var (pv 0 rfl (.inl rfl))) (de_str (by decide)) (nomark _)) (ds_one (ds_ret (de_call G.is_expression hr (by rfl) T.m_is_expression T.f_is_expression.kp T.b_is_expression (da_v (de_var (pv 1 rfl (.inl rfl))) (da_v (de_var (pv 2 rfl (.inl rfl))) da_nil)) (alen_v (alen_v alen_nil))))) ds_nil)
    (ds_cons (ds_if (dt_cmp (op_eqA hu) rs_eq (de_var (pv 0 rfl (.inl rfl))) (de_str (by decide)) (nomark _)) (ds_one (ds_ret (de_and (de_call G.is_expression hr (by rfl) T.m_is_expression T.f_is_expression.kp T.b_is_expression (da_v (de_var (pv 1 rfl (.inl rfl))) (da_v (de_var (pv 2 rfl (.inl rfl))) da_nil)) (alen_v (alen_v alen_nil))) (de_one (de_cmp (op_eqA hu) rs_eq (de_ix ix_seq rs_ix (de_var (pv 1 rfl (.inl rfl))) de_int (fun _ _ => rfl)) (de_str (by decide)) (nomark _)))))) ds_nil)
    (ds_cons (ds_if (dt_cmp (op_eqA hu) rs_eq (de_var (pv 0 rfl (.inl rfl))) (de_str (by decide)) (nomark _)) (ds_one (ds_ret (de_call G.are_arguments hr (by rfl) T.m_are_arguments T.f_are_arguments.kp T.b_are_arguments (da_v (de_var (pv 1 rfl (.inl rfl))) (da_v (de_var (pv 2 rfl (.inl rfl))) da_nil)) (alen_v (alen_v alen_nil))))) ds_nil)
    (ds_cons (ds_if (dt_cmp (op_eqA hu) rs_eq (de_var (pv 0 rfl (.inl rfl))) (de_str (by decide)) (nomark _)) (ds_one (ds_ret (de_or (de_isN (de_var (pv 1 rfl (.inl rfl)))) (de_one (de_call G.is_kind hr (by rfl) T.m_is_kind T.f_is_kind.kp T.b_is_kind (da_v (de_var (pv 1 rfl (.inl rfl))) da_nil) (alen_v alen_nil)))))) ds_nil)
    (ds_cons (ds_if (dt_cmp (op_eqA hu) rs_eq (de_var (pv 0 rfl (.inl rfl))) (de_str (by decide)) (nomark _)) (ds_one (ds_ret (de_call G.is_sign hr (by rfl) T.m_is_sign T.f_is_sign.kp T.b_is_sign (da_v (de_var (pv 1 rfl (.inl rfl))) da_nil) (alen_v alen_nil)))) ds_nil)
    (ds_one (ds_ret (de_if (dt_cmp (op_eqA hu) rs_eq (de_var (pv 0 rfl (.inl rfl))) (de_str (by decide)) (nomark _)) (de_call G.is_num hr (by rfl) T.m_is_num T.f_is_num.kp T.b_is_num (da_v (de_var (pv 1 rfl (.inl rfl))) da_nil) (alen_v alen_nil)) (de_call G.is_name hr (by rfl) T.m_is_name T.f_is_name.kp T.b_is_name (da_v (de_var (pv 1 rfl (.inl rfl))) da_nil) (alen_v alen_nil))))))))))
theorem sc_is_expression : FnScope [("thing" : Str), ("deep" : Str), ("word" : Str), ("form" : Str), ("part" : Str)] [("thing" : Str), ("deep" : Str)] (defScope s_is_expression) := ⟨rfl, rfl, rfl, by decide +kernel, rfl, by decide +kernel, by decide +kernel⟩
theorem ok_is_expression (T : Tp w K mg fds) (G : AllOk P w K mg base fds k F) : FnOk P w K mg base CX0 (k + 1) (He.ga K ("is_expression" : Str)) (fds 12) [("thing" : Str), ("deep" : Str)] (spF K 2 [] (step F).is_expression) := by
  refine fn_ok T.f_is_expression sc_is_expression rfl fun cdv A outer s H E hr => ?_
  have hu := hr.units
  have nd := (sc_is_expression).nd
  exact (ds_cons (ds_set (by decide) (fun h => ps_set (i := 2) nd rfl (Or.inl rfl) h) (de_call G.first_word hr (by rfl) T.m_first_word T.f_first_word.kp T.b_first_word (da_v (de_var (pv 0 rfl (.inl rfl))) da_nil) (alen_v alen_nil)))
    (ds_cons (ds_if (PW.pt (dw_or (dt_cmp (op_eqA hu) rs_eq (de_var (pv 1 rfl (.inr (.inl rfl)))) de_int (nomark _)) (dw_or (dt_notInT T.t_EXPRESSIONS (de_var (pv 2 rfl (.inl rfl))) (by rfl) T.m_EXPRESSIONS) (dw_or1 (dt_cmp (op_neA hu) rs_ne (de_callB call_len cs_len (by rfl) T.z_len boot_len (da_v (de_var (pv 0 rfl (.inl rfl))) da_nil)) (de_bin op_addD rs_add de_int (de_callB call_len cs_len (by rfl) T.z_len boot_len (da_v (de_ixT T.t_EXPRESSIONS (de_var (pv 2 rfl (.inl rfl))) (by rfl) T.m_EXPRESSIONS (fun _ _ => rfl)) da_nil))) (nomark _)))))) (ds_one (ds_ret de_bl)) ds_nil)
    (ds_one (ds_ret (de_callB (cr_all rfl) cs_all (by rfl) T.z_all boot_all (da_v (ld_val (ll_lc (own := [(("form" : Str), 3), (("part" : Str), 4)]) (tok_t (tok_cons (tok_n (by decide)) (tok_cons (tok_n (by decide)) tok_nil))) (tin_t (tin_cons (tin_n (by decide)) (tin_cons (tin_n (by decide)) tin_nil))) rfl nd (di_zip (by rfl) T.z_zip (da_v (de_ixT T.t_EXPRESSIONS (de_var (pv 2 rfl (.inl rfl))) (by rfl) T.m_EXPRESSIONS (fun _ _ => rfl)) (da_v (de_sl (de_var (pv 0 rfl (.inl rfl))) (do_some de_int) do_none) da_nil))) (blkOk_by (show blkC [("thing" : Str), ("deep" : Str), ("word" : Str), ("form" : Str), ("part" : Str)] (defScope s_is_expression) _ _ = true by decide +kernel)) (fun _ _ _ _ _ => (dg_tup rfl (dg_cons (dg_name (pg_name (i := 3) nd rfl (Or.inl rfl))) (dg_cons (dg_name (pg_name (i := 4) nd rfl (Or.inl rfl))) dg_nil)))) (fun _ _ _ _ _ => dts_nil) (fun _ _ _ _ _ => (de_call G.is_part hr (by rfl) T.m_is_part T.f_is_part.kp T.b_is_part (da_v (de_var (pv 3 rfl (.inl rfl))) (da_v (de_var (pv 4 rfl (.inl rfl))) (da_v (de_bin op_sub rs_sub (de_var (pv 1 rfl (.inr (.inl rfl)))) de_int) da_nil))) (alen_v (alen_v (alen_v alen_nil))))))) da_nil))))))
theorem sc_is_statement : FnScope [("thing" : Str), ("deep" : Str), ("word" : Str), ("form" : Str), ("part" : Str)] [("thing" : Str), ("deep" : Str)] (defScope s_is_statement) := ⟨rfl, rfl, rfl, by decide +kernel, rfl, by decide +kernel, by decide +kernel⟩
theorem ok_is_statement (T : Tp w K mg fds) (G : AllOk P w K mg base fds k F) : FnOk P w K mg base CX0 (k + 1) (He.ga K ("is_statement" : Str)) (fds 13) [("thing" : Str), ("deep" : Str)] (spF K 2 [] (step F).is_statement) := by
  refine fn_ok T.f_is_statement sc_is_statement rfl fun cdv A outer s H E hr => ?_
  have hu := hr.units
  have nd := (sc_is_statement).nd
  exact (ds_cons (ds_set (by decide) (fun h => ps_set (i := 2) nd rfl (Or.inl rfl) h) (de_call G.first_word hr (by rfl) T.m_first_word T.f_first_word.kp T.b_first_word (da_v (de_var (pv 0 rfl (.inl rfl))) da_nil) (alen_v alen_nil)))
    (ds_cons (ds_if (PW.pt (dw_or (dt_notInT T.t_STATEMENTS (de_var (pv 2 rfl (.inl rfl))) (by rfl) T.m_STATEMENTS) (dw_or1 (dt_cmp (op_neA hu) rs_ne (de_callB call_len cs_len (by rfl) T.z_len boot_len (da_v (de_var (pv 0 rfl (.inl rfl))) da_nil)) (de_bin op_addD rs_add de_int (de_callB call_len cs_len (by rfl) T.z_len boot_len (da_v (de_ixT T.t_STATEMENTS (de_var (pv 2 rfl (.inl rfl))) (by rfl) T.m_STATEMENTS (fun _ _ => rfl)) da_nil))) (nomark _))))) (ds_one (ds_ret de_bl)) ds_nil)
    (ds_cons (ds_for (tok_t (tok_cons (tok_n (by decide)) (tok_cons (tok_n (by decide)) tok_nil))) PassesOwn.never rfl (di_zip (by rfl) T.z_zip (da_v (de_ixT T.t_STATEMENTS (de_var (pv 2 rfl (.inl rfl))) (by rfl) T.m_STATEMENTS (fun _ _ => rfl)) (da_v (de_sl (de_var (pv 0 rfl (.inl rfl))) (do_some de_int) do_none) da_nil))) (dg_tup rfl (dg_cons (dg_name (pg_name (i := 3) nd rfl (.inl rfl))) (dg_cons (dg_name (pg_name (i := 4) nd rfl (.inl rfl))) dg_nil))) (ds_one (ds_if (dt_not (dt_ifE (dt_cmp (op_eqA hu) rs_eq (de_var (pv 3 rfl (.inl rfl))) (de_str (by decide)) (nomark _)) (dt_val (de_call G.is_block hr (by rfl) T.m_is_block T.f_is_block.kp T.b_is_block (da_v (de_var (pv 4 rfl (.inl rfl))) (da_v (de_var (pv 1 rfl (.inl rfl))) da_nil)) (alen_v (alen_v alen_nil)))) (dt_val (de_call G.is_part hr (by rfl) T.m_is_part T.f_is_part.kp T.b_is_part (da_v (de_var (pv 3 rfl (.inl rfl))) (da_v (de_var (pv 4 rfl (.inl rfl))) (da_v (de_glob (by rfl) T.g_MOST_EXPRESSION) da_nil))) (alen_v (alen_v (alen_v alen_nil))))))) (ds_one (ds_ret de_bl)) ds_nil)))
    (ds_one (ds_ret de_bl)))))
theorem sc_is_block : FnScope [("thing" : Str), ("deep" : Str), ("statement" : Str)] [("thing" : Str), ("deep" : Str)] (defScope s_is_block) := ⟨rfl, rfl, rfl, by decide +kernel, rfl, by decide +kernel, by decide +kernel⟩
theorem ok_is_block (T : Tp w K mg fds) (G : AllOk P w K mg base fds k F) : FnOk P w K mg base CX0 (k + 1) (He.ga K ("is_block" : Str)) (fds 14) [("thing" : Str), ("deep" : Str)] (spF K 2 [] (step F).is_block) := by
  refine fn_ok T.f_is_block sc_is_block rfl fun cdv A outer s H E hr => ?_
  have hu := hr.units
  have nd := (sc_is_block).nd
  exact (ds_cons (ds_if (PW.pt (dw_or (dt_cmp (op_eqA hu) rs_eq (de_var (pv 1 rfl (.inr (.inl rfl)))) de_int (nomark _)) (dw_or1 (dt_not (dt_val (de_isi kb_tup (by rfl) T.z_isinstance (de_var (pv 0 rfl (.inl rfl))) (pe_bltn (v := .ty "tuple") (by rfl) T.z_tuple boot_tuple rfl))))))) (ds_one (ds_ret de_bl)) ds_nil)
    (ds_one (ds_ret (de_callB (cr_all rfl) cs_all (by rfl) T.z_all boot_all (da_v (ld_val (ll_lc (own := [(("statement" : Str), 2)]) (tok_n (by decide)) (tin_n (by decide)) rfl nd (di_tup (de_var (pv 0 rfl (.inl rfl)))) (blkOk_by (show blkC [("thing" : Str), ("deep" : Str), ("statement" : Str)] (defScope s_is_block) _ _ = true by decide +kernel)) (fun _ _ _ _ _ => (dg_name (pg_name (i := 2) nd rfl (Or.inl rfl)))) (fun _ _ _ _ _ => dts_nil) (fun _ _ _ _ _ => (de_call G.is_statement hr (by rfl) T.m_is_statement T.f_is_statement.kp T.b_is_statement (da_v (de_var (pv 2 rfl (.inl rfl))) (da_v (de_bin op_sub rs_sub (de_var (pv 1 rfl (.inr (.inl rfl)))) de_int) da_nil)) (alen_v (alen_v alen_nil)))))) da_nil)))))
theorem sc_is_param : FnScope [("thing" : Str)] [("thing" : Str)] (defScope s_is_param) := ⟨rfl, rfl, rfl, by decide +kernel, rfl, by decide +kernel, by decide +kernel⟩
theorem ok_is_param (T : Tp w K mg fds) (G : AllOk P w K mg base fds k F) : FnOk P w K mg base CX0 (k + 1) (He.ga K ("is_param" : Str)) (fds 15) [("thing" : Str)] (spF K 1 [] (step F).is_param) := by
  refine fn_ok T.f_is_param sc_is_param rfl fun cdv A outer s H E hr => ?_
  have hu := hr.units
  have nd := (sc_is_param).nd
  exact (ds_one (ds_ret (de_and (de_call G.is_row_of hr (by rfl) T.m_is_row_of T.f_is_row_of.kp T.b_is_row_of (da_v (de_var (pv 0 rfl (.inl rfl))) (da_v de_int da_nil)) (alen_v (alen_v alen_nil))) (de_and (de_call G.is_mode hr (by rfl) T.m_is_mode T.f_is_mode.kp T.b_is_mode (da_v (de_ix ix_seq rs_ix (de_var (pv 0 rfl (.inl rfl))) de_int (fun _ _ => rfl)) da_nil) (alen_v alen_nil)) (de_and (de_call G.is_name hr (by rfl) T.m_is_name T.f_is_name.kp T.b_is_name (da_v (de_ix ix_seq rs_ix (de_var (pv 0 rfl (.inl rfl))) de_int (fun _ _ => rfl)) da_nil) (alen_v alen_nil)) (de_one (de_call G.is_kind hr (by rfl) T.m_is_kind T.f_is_kind.kp T.b_is_kind (da_v (de_ix ix_seq rs_ix (de_var (pv 0 rfl (.inl rfl))) de_int (fun _ _ => rfl)) da_nil) (alen_v alen_nil))))))))
theorem sc_is_body : FnScope [("thing" : Str), ("name" : Str), ("letter" : Str), ("params" : Str), ("gives" : Str), ("block" : Str), ("param" : Str)] [("thing" : Str)] (defScope s_is_body) := ⟨rfl, rfl, rfl, by decide +kernel, rfl, by decide +kernel, by decide +kernel⟩
theorem ok_is_body (T : Tp w K mg fds) (G : AllOk P w K mg base fds k F) : FnOk P w K mg base CX0 (k + 1) (He.ga K ("is_body" : Str)) (fds 16) [("thing" : Str)] (spF K 1 [] (step F).is_body) := by
  refine fn_ok T.f_is_body sc_is_body rfl fun cdv A outer s H E hr => ?_
  have hu := hr.units
  have nd := (sc_is_body).nd
  exact (ds_cons (ds_if (dt_not (dt_val (de_call G.is_row_of hr (by rfl) T.m_is_row_of T.f_is_row_of.kp T.b_is_row_of (da_v (de_var (pv 0 rfl (.inl rfl))) (da_v de_int da_nil)) (alen_v (alen_v alen_nil))))) (ds_one (ds_ret de_bl)) ds_nil)
    (ds_cons (ds_asg (tok_t (tok_cons (tok_n (by decide)) (tok_cons (tok_n (by decide)) (tok_cons (tok_n (by decide)) (tok_cons (tok_n (by decide)) (tok_cons (tok_n (by decide)) tok_nil)))))) (de_var (pv 0 rfl (.inl rfl))) (dg_tup rfl (dg_cons (dg_name (pg_name (i := 1) nd rfl (.inl rfl))) (dg_cons (dg_name (pg_name (i := 2) nd rfl (.inl rfl))) (dg_cons (dg_name (pg_name (i := 3) nd rfl (.inl rfl))) (dg_cons (dg_name (pg_name (i := 4) nd rfl (.inl rfl))) (dg_cons (dg_name (pg_name (i := 5) nd rfl (.inl rfl))) dg_nil)))))))
    (ds_cons (ds_if (PW.pt (dw_or (dt_not (dt_val (de_call G.is_name hr (by rfl) T.m_is_name T.f_is_name.kp T.b_is_name (da_v (de_var (pv 1 rfl (.inl rfl))) da_nil) (alen_v alen_nil)))) (dw_or (dt_not (dt_val (de_isi kb_bool (by rfl) T.z_isinstance (de_var (pv 2 rfl (.inl rfl))) (pe_bltn (v := .ty "bool") (by rfl) T.z_bool boot_bool rfl)))) (dw_or1 (dt_not (dt_val (de_isi kb_tup (by rfl) T.z_isinstance (de_var (pv 3 rfl (.inl rfl))) (pe_bltn (v := .ty "tuple") (by rfl) T.z_tuple boot_tuple rfl)))))))) (ds_one (ds_ret de_bl)) ds_nil)
    (ds_cons (ds_if (PW.pt (dw_or (dt_cmp op_gt (rs_rel _) (de_callB call_len cs_len (by rfl) T.z_len boot_len (da_v (de_var (pv 3 rfl (.inl rfl))) da_nil)) (de_glob (by rfl) T.g_MOST_PARAMS) (nomark _)) (dw_or1 (dt_not (dt_val (de_callB (cr_all rfl) cs_all (by rfl) T.z_all boot_all (da_v (ld_val (ll_lc (own := [(("param" : Str), 6)]) (tok_n (by decide)) (tin_n (by decide)) rfl nd (di_tup (de_var (pv 3 rfl (.inl rfl)))) (blkOk_by (show blkC [("thing" : Str), ("name" : Str), ("letter" : Str), ("params" : Str), ("gives" : Str), ("block" : Str), ("param" : Str)] (defScope s_is_body) _ _ = true by decide +kernel)) (fun _ _ _ _ _ => (dg_name (pg_name (i := 6) nd rfl (Or.inl rfl)))) (fun _ _ _ _ _ => dts_nil) (fun _ _ _ _ _ => (de_call G.is_param hr (by rfl) T.m_is_param T.f_is_param.kp T.b_is_param (da_v (de_var (pv 6 rfl (.inl rfl))) da_nil) (alen_v alen_nil))))) da_nil))))))) (ds_one (ds_ret de_bl)) ds_nil)
    (ds_one (ds_ret (de_and (de_call G.is_kind hr (by rfl) T.m_is_kind T.f_is_kind.kp T.b_is_kind (da_v (de_var (pv 4 rfl (.inl rfl))) da_nil) (alen_v alen_nil)) (de_one (de_call G.is_block hr (by rfl) T.m_is_block T.f_is_block.kp T.b_is_block (da_v (de_var (pv 5 rfl (.inl rfl))) (da_v (de_glob (by rfl) T.g_MOST_BLOCK) da_nil)) (alen_v (alen_v alen_nil)))))))))))
theorem sc_is_program : FnScope [("thing" : Str), ("body" : Str)] [("thing" : Str)] (defScope s_is_program) := ⟨rfl, rfl, rfl, by decide +kernel, rfl, by decide +kernel, by decide +kernel⟩
theorem ok_is_program (T : Tp w K mg fds) (G : AllOk P w K mg base fds k F) : FnOk P w K mg base CX0 (k + 1) (He.ga K ("is_program" : Str)) (fds 17) [("thing" : Str)] (spF K 1 [] (step F).is_program) := by
  refine fn_ok T.f_is_program sc_is_program rfl fun cdv A outer s H E hr => ?_
  have hu := hr.units
  have nd := (sc_is_program).nd
  exact (ds_one (ds_ret (de_and (de_isi kb_tup (by rfl) T.z_isinstance (de_var (pv 0 rfl (.inl rfl))) (pe_bltn (v := .ty "tuple") (by rfl) T.z_tuple boot_tuple rfl)) (de_and (de_cmp op_gt (rs_rel _) (de_callB call_len cs_len (by rfl) T.z_len boot_len (da_v (de_var (pv 0 rfl (.inl rfl))) da_nil)) de_int (nomark _)) (de_one (de_callB (cr_all rfl) cs_all (by rfl) T.z_all boot_all (da_v (ld_val (ll_lc (own := [(("body" : Str), 1)]) (tok_n (by decide)) (tin_n (by decide)) rfl nd (di_tup (de_var (pv 0 rfl (.inl rfl)))) (blkOk_by (show blkC [("thing" : Str), ("body" : Str)] (defScope s_is_program) _ _ = true by decide +kernel)) (fun _ _ _ _ _ => (dg_name (pg_name (i := 1) nd rfl (Or.inl rfl)))) (fun _ _ _ _ _ => dts_nil) (fun _ _ _ _ _ => (de_call G.is_body hr (by rfl) T.m_is_body T.f_is_body.kp T.b_is_body (da_v (de_var (pv 1 rfl (.inl rfl))) da_nil) (alen_v alen_nil))))) da_nil)))))))
theorem sc_law_hand : FnScope [("_law_script" : Str), ("_law_k" : Str), ("_law_cell" : Str), ("_law_great" : Str)] [("_law_script" : Str), ("_law_k" : Str)] (defScope s_law_hand) := ⟨rfl, rfl, rfl, by decide +kernel, rfl, by decide +kernel, by decide +kernel⟩
theorem ok_law_hand (T : Tp w K mg fds) (G : AllOk P w K mg base fds k F) : FnOk P w K mg base CX0 (k + 1) (He.ga K ("_law_hand" : Str)) (fds 18) [("_law_script" : Str), ("_law_k" : Str)] (spL K 2 [] (step F).law_hand) := by
  refine fnL_ok T.f_law_hand sc_law_hand rfl fun cdv A outer s H E hr => ?_
  have hu := hr.units
  have nd := (sc_law_hand).nd
  exact (dq_cons (ds_set (by decide) (fun h => ps_set (i := 2) nd rfl (Or.inl rfl) h) (de_if (dt_cmp op_lt (rs_rel _) (de_var (pv 1 rfl (.inl rfl))) (de_callB call_len cs_len (by rfl) T.z_len boot_len (da_v (de_var (pv 0 rfl (.inl rfl))) da_nil)) (nomark _)) (de_ix ix_seq rs_ix (de_var (pv 0 rfl (.inl rfl))) (de_var (pv 1 rfl (.inl rfl))) (fun _ _ => rfl)) de_int))
    (dq_cons (ds_set (by decide) (fun h => ps_set (i := 3) nd rfl (Or.inl rfl) h) (de_bin op_mulD rs_mul (de_bin op_mod rs_mod (de_callB call_abs cs_abs (by rfl) T.z_abs boot_abs (da_v (de_var (pv 2 rfl (.inl rfl))) da_nil)) (de_bin op_mulD rs_mul (de_bin op_pow rs_pow de_int de_int) (de_bin op_pow rs_pow de_int de_int))) (de_callTy call_int1 cs_int (by rfl) T.z_int boot_int (da_v (de_cmp op_ge (rs_rel _) (de_callB call_abs cs_abs (by rfl) T.z_abs boot_abs (da_v (de_var (pv 2 rfl (.inl rfl))) da_nil)) (de_bin op_pow rs_pow de_int de_int) (nomark _)) da_nil))))
    (dq_one (dq_ret (ll_lst (da_v (de_var (pv 3 rfl (.inl rfl))) (da_v (de_bin op_addD rs_add (de_bin op_addD rs_add (de_bin op_mod rs_mod (de_var (pv 2 rfl (.inl rfl))) de_int) (de_bin op_mulD rs_mul de_int (de_var (pv 1 rfl (.inl rfl))))) de_int) (da_v de_int da_nil))))))))
theorem sc_law_take : FnScope [("_law_hand_here" : Str), ("_law_many" : Str), ("_law_digit" : Str), ("_law_primes" : Str), ("_law_prime" : Str), ("_law_drawn" : Str)] [("_law_hand_here" : Str), ("_law_many" : Str)] (defScope s_law_take) := ⟨rfl, rfl, rfl, by decide +kernel, rfl, by decide +kernel, by decide +kernel⟩
theorem ok_law_take (T : Tp w K mg fds) (G : AllOk P w K mg base fds k F) : FnOk P w K mg base CX0 (k + 1) (He.ga K ("_law_take" : Str)) (fds 19) [("_law_hand_here" : Str), ("_law_many" : Str)] (spF K 2 [0] (step F).law_take) := by
  refine fn_ok T.f_law_take sc_law_take rfl fun cdv A outer s H E hr => ?_
  have hu := hr.units
  have nd := (sc_law_take).nd
  exact (ds_cons (ds_if (dt_cmp op_gt (rs_rel _) (de_ix_l ix_seq rs_ix (pv 0 rfl (.inl rfl)) de_int (fun _ _ => rfl)) de_int (nomark _)) (ds_cons (ds_set (by decide) (fun h => ps_set (i := 2) nd rfl (Or.inl rfl) h) (de_bin op_mod rs_mod (de_ix_l ix_seq rs_ix (pv 0 rfl (.inl rfl)) de_int (fun _ _ => rfl)) (de_var (pv 1 rfl (.inl rfl)))))
    (ds_cons (ds_setI (pv 0 rfl (.inl rfl)) de_int (de_bin op_fdivW rs_div (de_ix_l ix_seq rs_ix (pv 0 rfl (.inl rfl)) de_int (fun _ _ => rfl)) (de_var (pv 1 rfl (.inl rfl)))) (fun hx hk he => ps_asg he (pg_sub hx hk set_list)))
    (ds_one (ds_ret (de_var (pv 2 rfl (.inl rfl))))))) ds_nil)
    (ds_cons (ds_setI (pv 0 rfl (.inl rfl)) de_int (de_bin op_addD rs_add (de_ix_l ix_seq rs_ix (pv 0 rfl (.inl rfl)) de_int (fun _ _ => rfl)) de_int) (fun hx hk he => ps_asg he (pg_sub hx hk set_list)))
    (ds_cons (ds_set (by decide) (fun h => ps_set (i := 3) nd rfl (Or.inl rfl) h) (de_lst (da_v de_int (da_v de_int (da_v de_int (da_v de_int (da_v de_int (da_v de_int (da_v de_int (da_v de_int da_nil))))))))))
    (ds_cons (ds_set (by decide) (fun h => ps_set (i := 4) nd rfl (Or.inl rfl) h) (de_ix ix_seq rs_ix (de_var (pv 3 rfl (.inl rfl))) (de_bin op_mod rs_mod (de_ix_l ix_seq rs_ix (pv 0 rfl (.inl rfl)) de_int (fun _ _ => rfl)) de_int) (fun _ _ => rfl)))
    (ds_cons (ds_set (by decide) (fun h => ps_set (i := 5) nd rfl (Or.inl rfl) h) (de_bin op_mod rs_mod (de_bin op_pow rs_pow (de_bin op_addD rs_add (de_ix_l ix_seq rs_ix (pv 0 rfl (.inl rfl)) de_int (fun _ _ => rfl)) (de_bin op_mulD rs_mul de_int (de_ix_l ix_seq rs_ix (pv 0 rfl (.inl rfl)) de_int (fun _ _ => rfl)))) de_int) (de_var (pv 4 rfl (.inl rfl)))))
    (ds_one (ds_ret (de_bin op_mod rs_mod (de_bin op_fdivW rs_div (de_bin op_mod rs_mod (de_bin op_mulD rs_mul (de_var (pv 5 rfl (.inl rfl))) (de_bin op_addD rs_add (de_bin op_mod rs_mod (de_var (pv 5 rfl (.inl rfl))) de_int) (de_ix_l ix_seq rs_ix (pv 0 rfl (.inl rfl)) de_int (fun _ _ => rfl)))) (de_var (pv 4 rfl (.inl rfl)))) de_int) (de_var (pv 1 rfl (.inl rfl)))))))))))
theorem sc_law_of : FnScope [("_law_hand_here" : Str), ("_law_some" : Str)] [("_law_hand_here" : Str), ("_law_some" : Str)] (defScope s_law_of) := ⟨rfl, rfl, rfl, by decide +kernel, rfl, by decide +kernel, by decide +kernel⟩
theorem ok_law_of (T : Tp w K mg fds) (G : AllOk P w K mg base fds k F) : FnOk P w K mg base CX0 (k + 1) (He.ga K ("_law_of" : Str)) (fds 20) [("_law_hand_here" : Str), ("_law_some" : Str)] (spF K 2 [0] (step F).law_of) := by
  refine fn_ok T.f_law_of sc_law_of rfl fun cdv A outer s H E hr => ?_
  have hu := hr.units
  have nd := (sc_law_of).nd
  exact (ds_one (ds_ret (de_ix ix_seq rs_ix (de_var (pv 1 rfl (.inl rfl))) (de_call G.law_take hr (by rfl) T.m_law_take T.f_law_take.kp T.b_law_take (da_s (pv 0 rfl (.inl rfl)) (da_v (de_callB call_len cs_len (by rfl) T.z_len boot_len (da_v (de_var (pv 1 rfl (.inl rfl))) da_nil)) da_nil)) (alen_s (alen_v alen_nil))) (fun _ _ => rfl))))
theorem sc_law_keywords : FnScope [("_law_some" : Str)] [] (defScope s_law_keywords) := ⟨rfl, rfl, rfl, by decide +kernel, rfl, by decide +kernel, by decide +kernel⟩
theorem ok_law_keywords (T : Tp w K mg fds) (G : AllOk P w K mg base fds k F) : FnOk P w K mg base CX0 (k + 1) (He.ga K ("_law_keywords" : Str)) (fds 21) [] (spF K 0 [] (step F).law_keywords) := by
  refine fn_ok T.f_law_keywords sc_law_keywords rfl fun cdv A outer s H E hr => ?_
  have hu := hr.units
  have nd := (sc_law_keywords).nd
  exact (ds_cons (ds_set (by decide) (fun h => ps_set (i := 0) nd rfl (Or.inl rfl) h) (de_lst (da_v (de_str (by decide)) (da_v (de_str (by decide)) (da_v (de_str (by decide)) (da_v (de_str (by decide)) (da_v (de_str (by decide)) (da_v (de_str (by decide)) (da_v (de_str (by decide)) (da_v (de_str (by decide)) (da_v (de_str (by decide)) (da_v (de_str (by decide)) (da_v (de_str (by decide)) (da_v (de_str (by decide)) (da_v (de_str (by decide)) da_nil)))))))))))))))
    (ds_cons (ds_set (by decide) (fun h => ps_set (i := 0) nd rfl (Or.inl rfl) h) (de_bin op_addD rs_add (de_var (pv 0 rfl (.inl rfl))) (de_lst (da_v (de_str (by decide)) (da_v (de_str (by decide)) (da_v (de_str (by decide)) (da_v (de_str (by decide)) (da_v (de_str (by decide)) (da_v (de_str (by decide)) (da_v (de_str (by decide)) (da_v (de_str (by decide)) (da_v (de_str (by decide)) (da_v (de_str (by decide)) (da_v (de_str (by decide)) (da_v (de_str (by decide)) da_nil)))))))))))))))
    (ds_one (ds_ret (de_bin op_addD rs_add (de_var (pv 0 rfl (.inl rfl))) (de_lst (da_v (de_str (by decide)) (da_v (de_str (by decide)) (da_v (de_str (by decide)) (da_v (de_str (by decide)) (da_v (de_str (by decide)) (da_v (de_str (by decide)) (da_v (de_str (by decide)) da_nil)))))))))))))
theorem sc_law_name : FnScope [("_law_hand_here" : Str), ("_law_long" : Str), ("_law_name_here" : Str), ("_law_k" : Str)] [("_law_hand_here" : Str)] (defScope s_law_name) := ⟨rfl, rfl, rfl, by decide +kernel, rfl, by decide +kernel, by decide +kernel⟩
theorem ok_law_name (T : Tp w K mg fds) (G : AllOk P w K mg base fds k F) : FnOk P w K mg base CX0 (k + 1) (He.ga K ("_law_name" : Str)) (fds 22) [("_law_hand_here" : Str)] (spF K 1 [0] (step F).law_name) := by
  refine fn_ok T.f_law_name sc_law_name rfl fun cdv A outer s H E hr => ?_
  have hu := hr.units
  have nd := (sc_law_name).nd
  exact (ds_cons (ds_set (by decide) (fun h => ps_set (i := 1) nd rfl (Or.inl rfl) h) (de_call G.law_of hr (by rfl) T.m_law_of T.f_law_of.kp T.b_law_of (da_s (pv 0 rfl (.inr (.inl rfl))) (da_v (de_lst (da_v de_int (da_v de_int (da_v de_int (da_v de_int (da_v de_int (da_v de_int da_nil))))))) da_nil)) (alen_s (alen_v alen_nil))))
    (ds_cons (ds_set (by decide) (fun h => ps_set (i := 2) nd rfl (Or.inl rfl) h) (de_bmS PySem.F.plainAttrs_str PySem.F.slot_str_join PySem.F.type_str_join mt_join ms_join (de_str (by decide)) (da_v (ld_val (ll_lc (own := [(("_law_k" : Str), 3)]) (tok_n (by decide)) (tin_n (by decide)) rfl nd (di_rng1 (by rfl) T.z_range (da_v (de_var (pv 1 rfl (.inl rfl))) da_nil)) (blkOk_by (show blkC [("_law_hand_here" : Str), ("_law_long" : Str), ("_law_name_here" : Str), ("_law_k" : Str)] (defScope s_law_name) _ _ = true by decide +kernel)) (fun _ _ _ _ _ => (dg_name (pg_name (i := 3) nd rfl (Or.inl rfl)))) (fun _ _ _ _ _ => dts_nil) (fun _ _ _ _ _ => (de_call G.law_of hr (by rfl) T.m_law_of T.f_law_of.kp T.b_law_of (da_s (pv 0 rfl (.inr (.inl rfl))) (da_v (de_str (by decide)) da_nil)) (alen_s (alen_v alen_nil)))))) da_nil)))
    (ds_one (ds_ret (de_if (dt_cmp op_notInA rs_notIn (de_var (pv 2 rfl (.inl rfl))) (de_call0 G.law_keywords hr (by rfl) T.m_law_keywords T.f_law_keywords.kp T.b_law_keywords) (by rfl)) (de_var (pv 2 rfl (.inl rfl))) (de_bin op_addD rs_add (de_sl (de_var (pv 2 rfl (.inl rfl))) do_none (do_some de_int)) (de_str (by decide))))))))
theorem sc_law_kind : FnScope [("_law_hand_here" : Str), ("_law_deep" : Str), ("_law_pick" : Str), ("_law_leaf" : Str), ("_law_inner" : Str)] [("_law_hand_here" : Str), ("_law_deep" : Str)] (defScope s_law_kind) := ⟨rfl, rfl, rfl, by decide +kernel, rfl, by decide +kernel, by decide +kernel⟩
theorem ok_law_kind (T : Tp w K mg fds) (G : AllOk P w K mg base fds k F) : FnOk P w K mg base CX0 (k + 1) (He.ga K ("_law_kind" : Str)) (fds 23) [("_law_hand_here" : Str), ("_law_deep" : Str)] (spF K 2 [0] (step F).law_kind) := by
  refine fn_ok T.f_law_kind sc_law_kind rfl fun cdv A outer s H E hr => ?_
  have hu := hr.units
  have nd := (sc_law_kind).nd
  exact (ds_cons (ds_par2 (by decide) (by decide) (ps_par (i := 2) (j := 3) rfl nd rfl rfl (by decide) rfl rfl (da_v (de_call G.law_take hr (by rfl) T.m_law_take T.f_law_take.kp T.b_law_take (da_s (pv 0 rfl (.inl rfl)) (da_v de_int da_nil)) (alen_s (alen_v alen_nil))) (da_v (de_call G.law_of hr (by rfl) T.m_law_of T.f_law_of.kp T.b_law_of (da_s (pv 0 rfl (.inl rfl)) (da_v (de_lst (da_v (de_str (by decide)) (da_v (de_str (by decide)) (da_v (de_str (by decide)) da_nil)))) da_nil)) (alen_s (alen_v alen_nil))) da_nil)) (by rfl)))
    (ds_cons (ds_if (PW.pt (dw_or (dt_cmp (op_eqA hu) rs_eq (de_var (pv 1 rfl (.inl rfl))) de_int (nomark _)) (dw_or1 (dt_cmp (op_eqA hu) rs_eq (de_var (pv 2 rfl (.inl rfl))) de_int (nomark _))))) (ds_one (ds_ret (de_var (pv 3 rfl (.inl rfl))))) ds_nil)
    (ds_cons (ds_set (by decide) (fun h => ps_set (i := 4) nd rfl (Or.inl rfl) h) (de_call G.law_kind hr (by rfl) T.m_law_kind T.f_law_kind.kp T.b_law_kind (da_s (pv 0 rfl (.inl rfl)) (da_v (de_bin op_sub rs_sub (de_var (pv 1 rfl (.inl rfl))) de_int) da_nil)) (alen_s (alen_v alen_nil))))
    (ds_one (ds_ret (de_ix ix_seq rs_ix (de_lst (da_v (de_tup (da_v (de_str (by decide)) (da_v (de_var (pv 4 rfl (.inl rfl))) da_nil))) (da_v (de_tup (da_v (de_str (by decide)) (da_v (de_var (pv 4 rfl (.inl rfl))) da_nil))) (da_v (de_tup (da_v (de_str (by decide)) (da_v (de_var (pv 3 rfl (.inl rfl))) (da_v (de_var (pv 4 rfl (.inl rfl))) da_nil)))) (da_v (de_tup (da_v (de_str (by decide)) (da_v (de_var (pv 4 rfl (.inl rfl))) (da_v (de_var (pv 3 rfl (.inl rfl))) da_nil)))) da_nil))))) (de_bin op_sub rs_sub (de_var (pv 2 rfl (.inl rfl))) de_int) (fun _ _ => rfl)))))))
theorem sc_law_num : FnScope [("_law_hand_here" : Str), ("_law_any_one" : Str)] [("_law_hand_here" : Str)] (defScope s_law_num) := ⟨rfl, rfl, rfl, by decide +kernel, rfl, by decide +kernel, by decide +kernel⟩
theorem ok_law_num (T : Tp w K mg fds) (G : AllOk P w K mg base fds k F) : FnOk P w K mg base CX0 (k + 1) (He.ga K ("_law_num" : Str)) (fds 24) [("_law_hand_here" : Str)] (spF K 1 [0] (step F).law_num) := by
  refine fn_ok T.f_law_num sc_law_num rfl fun cdv A outer s H E hr => ?_
  have hu := hr.units
  have nd := (sc_law_num).nd
  exact (ds_cons (ds_set (by decide) (fun h => ps_set (i := 1) nd rfl (Or.inl rfl) h) (de_call G.law_take hr (by rfl) T.m_law_take T.f_law_take.kp T.b_law_take (da_s (pv 0 rfl (.inl rfl)) (da_v (de_bin op_pow rs_pow de_int de_int) da_nil)) (alen_s (alen_v alen_nil))))
    (ds_one (ds_ret (de_call G.law_of hr (by rfl) T.m_law_of T.f_law_of.kp T.b_law_of (da_s (pv 0 rfl (.inl rfl)) (da_v (de_lst (da_v de_int (da_v de_int (da_v de_int (da_v (de_bin op_sub rs_sub de_int de_int) (da_v (de_bin op_pow rs_pow de_int de_int) (da_v (de_bin op_sub rs_sub de_int (de_bin op_pow rs_pow de_int de_int)) (da_v (de_var (pv 1 rfl (.inl rfl))) (da_v (de_bin op_sub rs_sub de_int (de_var (pv 1 rfl (.inl rfl)))) da_nil))))))))) da_nil)) (alen_s (alen_v alen_nil))))))
theorem sc_law_arguments : FnScope [("_law_hand_here" : Str), ("_law_deep" : Str), ("_law_room" : Str), ("_law_some" : Str), ("_law_k" : Str), ("_law_mode" : Str), ("_law_what" : Str)] [("_law_hand_here" : Str), ("_law_deep" : Str), ("_law_room" : Str)] (defScope s_law_arguments) := ⟨rfl, rfl, rfl, by decide +kernel, rfl, by decide +kernel, by decide +kernel⟩
theorem ok_law_arguments (T : Tp w K mg fds) (G : AllOk P w K mg base fds k F) : FnOk P w K mg base CX0 (k + 1) (He.ga K ("_law_arguments" : Str)) (fds 25) [("_law_hand_here" : Str), ("_law_deep" : Str), ("_law_room" : Str)] (spF K 3 [0, 2] (step F).law_arguments) := by
  refine fn_ok T.f_law_arguments sc_law_arguments rfl fun cdv A outer s H E hr => ?_
  have hu := hr.units
  have nd := (sc_law_arguments).nd
  exact (ds_cons (ds_own (by decide) (ll_lst da_nil) (fun h => ps_set (i := 3) nd rfl (Or.inl rfl) h))
    (ds_cons (ds_for (tok_n (by decide)) PassesOwn.never rfl (di_rng1 (by rfl) T.z_range (da_v (de_call G.law_take hr (by rfl) T.m_law_take T.f_law_take.kp T.b_law_take (da_s (pv 0 rfl (.inl rfl)) (da_v de_int da_nil)) (alen_s (alen_v alen_nil))) da_nil)) (dg_name (pg_name (i := 4) nd rfl (.inl rfl))) (ds_cons (ds_par2 (by decide) (by decide) (ps_par (i := 5) (j := 6) rfl nd rfl rfl (by decide) rfl rfl (da_v (de_call G.law_of hr (by rfl) T.m_law_of T.f_law_of.kp T.b_law_of (da_s (pv 0 rfl (.inl rfl)) (da_v (de_lst (da_v (de_str (by decide)) (da_v (de_str (by decide)) (da_v (de_str (by decide)) (da_v (de_str (by decide)) da_nil))))) da_nil)) (alen_s (alen_v alen_nil))) (da_v (de_call G.law_name hr (by rfl) T.m_law_name T.f_law_name.kp T.b_law_name (da_s (pv 0 rfl (.inl rfl)) da_nil) (alen_s alen_nil)) da_nil)) (by rfl)))
    (ds_cons (ds_if (dt_cmp (op_eqA hu) rs_eq (de_var (pv 5 rfl (.inl rfl))) (de_str (by decide)) (nomark _)) (ds_one (ds_set (by decide) (fun h => ps_set (i := 6) nd rfl (Or.inl rfl) h) (de_call G.law_expression hr (by rfl) T.m_law_expression T.f_law_expression.kp T.b_law_expression (da_s (pv 0 rfl (.inl rfl)) (da_v (de_var (pv 1 rfl (.inl rfl))) (da_s (pv 2 rfl (.inl rfl)) da_nil))) (alen_s (alen_v (alen_s alen_nil)))))) ds_nil)
    (ds_one (ds_app (x := .Name ("_law_some" : Str) ⟨0, 0, 0, 0⟩) (pv 3 rfl (.inl rfl)) (de_tup (da_v (de_var (pv 5 rfl (.inl rfl))) (da_v (de_var (pv 6 rfl (.inl rfl))) da_nil))) (fun h => ps_expr (pe_bm PySem.F.plainAttrs_list PySem.F.slot_list_append PySem.F.type_list_append mt_append (pv 3 rfl (.inl rfl)) (pa_cons h pa_nil))))))))
    (ds_one (ds_ret (de_callTy call_tuple_of cs_tup (by rfl) T.z_tuple boot_tuple (da_s (pv 3 rfl (.inl rfl)) da_nil))))))
theorem sc_law_expression : FnScope [("_law_hand_here" : Str), ("_law_deep" : Str), ("_law_room" : Str), ("_law_pick" : Str), ("_law_name_here" : Str), ("_law_some" : Str), ("_law_sign" : Str), ("_law_one" : Str), ("_law_put" : Str)] [("_law_hand_here" : Str), ("_law_deep" : Str), ("_law_room" : Str)] (defScope s_law_expression) := ⟨rfl, rfl, rfl, by decide +kernel, rfl, by decide +kernel, by decide +kernel⟩
theorem ok_law_expression (T : Tp w K mg fds) (G : AllOk P w K mg base fds k F) : FnOk P w K mg base CX0 (k + 1) (He.ga K ("_law_expression" : Str)) (fds 26) [("_law_hand_here" : Str), ("_law_deep" : Str), ("_law_room" : Str)] (spF K 3 [0, 2] (step F).law_expression) := by
  refine fn_ok T.f_law_expression sc_law_expression rfl fun cdv A outer s H E hr => ?_
  have hu := hr.units
  have nd := (sc_law_expression).nd
  exact (ds_cons (ds_setI (pv 2 rfl (.inl rfl)) de_int (de_bin op_sub rs_sub (de_ix_l ix_seq rs_ix (pv 2 rfl (.inl rfl)) de_int (fun _ _ => rfl)) de_int) (fun hx hk he => ps_asg he (pg_sub hx hk set_list)))
    (ds_cons (ds_par2 (by decide) (by decide) (ps_par (i := 3) (j := 4) rfl nd rfl rfl (by decide) rfl rfl (da_v (de_call G.law_take hr (by rfl) T.m_law_take T.f_law_take.kp T.b_law_take (da_s (pv 0 rfl (.inl rfl)) (da_v de_int da_nil)) (alen_s (alen_v alen_nil))) (da_v (de_call G.law_name hr (by rfl) T.m_law_name T.f_law_name.kp T.b_law_name (da_s (pv 0 rfl (.inl rfl)) da_nil) (alen_s alen_nil)) da_nil)) (by rfl)))
    (ds_cons (ds_if (PW.pt (dw_or (dt_cmp op_lt (rs_rel _) (de_var (pv 3 rfl (.inl rfl))) de_int (nomark _)) (dw_or (dt_cmp (op_eqA hu) rs_eq (de_var (pv 1 rfl (.inl rfl))) de_int (nomark _)) (dw_or1 (dt_cmp op_lt (rs_rel _) (de_ix_l ix_seq rs_ix (pv 2 rfl (.inl rfl)) de_int (fun _ _ => rfl)) de_int (nomark _)))))) (ds_cons (ds_set (by decide) (fun h => ps_set (i := 5) nd rfl (Or.inl rfl) h) (de_lst (da_v (de_tup (da_v (de_str (by decide)) (da_v (de_call G.law_num hr (by rfl) T.m_law_num T.f_law_num.kp T.b_law_num (da_s (pv 0 rfl (.inl rfl)) da_nil) (alen_s alen_nil)) da_nil))) (da_v (de_tup (da_v (de_str (by decide)) (da_v (de_var (pv 4 rfl (.inl rfl))) da_nil))) (da_v (de_tup (da_v (de_str (by decide)) (da_v (de_var (pv 4 rfl (.inl rfl))) da_nil))) (da_v (de_tup (da_v (de_str (by decide)) (da_v (de_var (pv 4 rfl (.inl rfl))) da_nil))) da_nil))))))
    (ds_one (ds_ret (de_ix ix_seq rs_ix (de_bin op_addD rs_add (de_var (pv 5 rfl (.inl rfl))) (de_lst (da_v (de_tup (da_v (de_str (by decide)) (da_v (de_var (pv 4 rfl (.inl rfl))) (da_v de_non (da_v (de_tup da_nil) da_nil))))) da_nil))) (de_bin op_mod rs_mod (de_var (pv 3 rfl (.inl rfl))) de_int) (fun _ _ => rfl))))) ds_nil)
    (ds_cons (ds_if (dt_cmp op_lt (rs_rel _) (de_var (pv 3 rfl (.inl rfl))) de_int (nomark _)) (ds_cons (ds_set (by decide) (fun h => ps_set (i := 6) nd rfl (Or.inl rfl) h) (de_call G.law_of hr (by rfl) T.m_law_of T.f_law_of.kp T.b_law_of (da_s (pv 0 rfl (.inl rfl)) (da_v (de_str (by decide)) da_nil)) (alen_s (alen_v alen_nil))))
    (ds_cons (ds_set (by decide) (fun h => ps_set (i := 7) nd rfl (Or.inl rfl) h) (de_call G.law_expression hr (by rfl) T.m_law_expression T.f_law_expression.kp T.b_law_expression (da_s (pv 0 rfl (.inl rfl)) (da_v (de_bin op_sub rs_sub (de_var (pv 1 rfl (.inl rfl))) de_int) (da_s (pv 2 rfl (.inl rfl)) da_nil))) (alen_s (alen_v (alen_s alen_nil)))))
    (ds_one (ds_ret (de_tup (da_v (de_str (by decide)) (da_v (de_var (pv 6 rfl (.inl rfl))) (da_v (de_var (pv 7 rfl (.inl rfl))) (da_v (de_call G.law_expression hr (by rfl) T.m_law_expression T.f_law_expression.kp T.b_law_expression (da_s (pv 0 rfl (.inl rfl)) (da_v (de_bin op_sub rs_sub (de_var (pv 1 rfl (.inl rfl))) de_int) (da_s (pv 2 rfl (.inl rfl)) da_nil))) (alen_s (alen_v (alen_s alen_nil)))) da_nil))))))))) ds_nil)
    (ds_cons (ds_if (dt_cmp op_lt (rs_rel _) (de_var (pv 3 rfl (.inl rfl))) de_int (nomark _)) (ds_one (ds_ret (de_tup (da_v (de_ix ix_seq rs_ix (de_lst (da_v (de_str (by decide)) (da_v (de_str (by decide)) (da_v (de_str (by decide)) da_nil)))) (de_bin op_sub rs_sub (de_var (pv 3 rfl (.inl rfl))) de_int) (fun _ _ => rfl)) (da_v (de_call G.law_expression hr (by rfl) T.m_law_expression T.f_law_expression.kp T.b_law_expression (da_s (pv 0 rfl (.inl rfl)) (da_v (de_bin op_sub rs_sub (de_var (pv 1 rfl (.inl rfl))) de_int) (da_s (pv 2 rfl (.inl rfl)) da_nil))) (alen_s (alen_v (alen_s alen_nil)))) da_nil))))) ds_nil)
    (ds_cons (ds_if (dt_cmp (op_eqA hu) rs_eq (de_var (pv 3 rfl (.inl rfl))) de_int (nomark _)) (ds_cons (ds_set (by decide) (fun h => ps_set (i := 7) nd rfl (Or.inl rfl) h) (de_call G.law_expression hr (by rfl) T.m_law_expression T.f_law_expression.kp T.b_law_expression (da_s (pv 0 rfl (.inl rfl)) (da_v (de_bin op_sub rs_sub (de_var (pv 1 rfl (.inl rfl))) de_int) (da_s (pv 2 rfl (.inl rfl)) da_nil))) (alen_s (alen_v (alen_s alen_nil)))))
    (ds_one (ds_ret (de_tup (da_v (de_str (by decide)) (da_v (de_var (pv 7 rfl (.inl rfl))) (da_v (de_call G.law_expression hr (by rfl) T.m_law_expression T.f_law_expression.kp T.b_law_expression (da_s (pv 0 rfl (.inl rfl)) (da_v (de_bin op_sub rs_sub (de_var (pv 1 rfl (.inl rfl))) de_int) (da_s (pv 2 rfl (.inl rfl)) da_nil))) (alen_s (alen_v (alen_s alen_nil)))) da_nil))))))) ds_nil)
    (ds_cons (ds_set (by decide) (fun h => ps_set (i := 8) nd rfl (Or.inl rfl) h) (de_call G.law_of hr (by rfl) T.m_law_of T.f_law_of.kp T.b_law_of (da_s (pv 0 rfl (.inl rfl)) (da_v (de_lst (da_v de_non (da_v (de_call G.law_kind hr (by rfl) T.m_law_kind T.f_law_kind.kp T.b_law_kind (da_s (pv 0 rfl (.inl rfl)) (da_v (de_bin op_addD rs_add de_int (de_call G.law_take hr (by rfl) T.m_law_take T.f_law_take.kp T.b_law_take (da_s (pv 0 rfl (.inl rfl)) (da_v de_int da_nil)) (alen_s (alen_v alen_nil)))) da_nil)) (alen_s (alen_v alen_nil))) da_nil))) da_nil)) (alen_s (alen_v alen_nil))))
    (ds_one (ds_ret (de_tup (da_v (de_str (by decide)) (da_v (de_var (pv 4 rfl (.inl rfl))) (da_v (de_var (pv 8 rfl (.inl rfl))) (da_v (de_call G.law_arguments hr (by rfl) T.m_law_arguments T.f_law_arguments.kp T.b_law_arguments (da_s (pv 0 rfl (.inl rfl)) (da_v (de_bin op_sub rs_sub (de_var (pv 1 rfl (.inl rfl))) de_int) (da_s (pv 2 rfl (.inl rfl)) da_nil))) (alen_s (alen_v (alen_s alen_nil)))) da_nil))))))))))))))
theorem sc_law_statement : FnScope [("_law_hand_here" : Str), ("_law_deep" : Str), ("_law_room" : Str), ("_law_words" : Str), ("_law_word" : Str), ("_law_name_here" : Str), ("_law_other" : Str), ("_law_worth" : Str), ("_law_blocks" : Str), ("_law_k" : Str)] [("_law_hand_here" : Str), ("_law_deep" : Str), ("_law_room" : Str)] (defScope s_law_statement) := ⟨rfl, rfl, rfl, by decide +kernel, rfl, by decide +kernel, by decide +kernel⟩
theorem ok_law_statement (T : Tp w K mg fds) (G : AllOk P w K mg base fds k F) : FnOk P w K mg base CX0 (k + 1) (He.ga K ("_law_statement" : Str)) (fds 27) [("_law_hand_here" : Str), ("_law_deep" : Str), ("_law_room" : Str)] (spF K 3 [0, 2] (step F).law_statement) := by
  refine fn_ok T.f_law_statement sc_law_statement rfl fun cdv A outer s H E hr => ?_
  have hu := hr.units
  have nd := (sc_law_statement).nd
  exact (ds_cons (ds_setI (pv 2 rfl (.inr (.inl rfl))) de_int (de_bin op_sub rs_sub (de_ix_l ix_seq rs_ix (pv 2 rfl (.inr (.inl rfl))) de_int (fun _ _ => rfl)) de_int) (fun hx hk he => ps_asg he (pg_sub hx hk set_list)))
    (ds_cons (ds_set (by decide) (fun h => ps_set (i := 3) nd rfl (Or.inl rfl) h) (de_lst (da_v (de_str (by decide)) (da_v (de_str (by decide)) (da_v (de_str (by decide)) (da_v (de_str (by decide)) (da_v (de_str (by decide)) (da_v (de_str (by decide)) (da_v (de_str (by decide)) (da_v (de_str (by decide)) (da_v (de_str (by decide)) (da_v (de_str (by decide)) (da_v (de_str (by decide)) da_nil)))))))))))))
    (ds_cons (ds_set (by decide) (fun h => ps_set (i := 4) nd rfl (Or.inl rfl) h) (de_call G.law_of hr (by rfl) T.m_law_of T.f_law_of.kp T.b_law_of (da_s (pv 0 rfl (.inr (.inl rfl))) (da_v (de_bin op_addD rs_add (de_var (pv 3 rfl (.inl rfl))) (de_bin op_mulD rs_mul (de_lst (da_v (de_str (by decide)) (da_v (de_str (by decide)) (da_v (de_str (by decide)) (da_v (de_str (by decide)) (da_v (de_str (by decide)) da_nil)))))) (de_callTy call_int1 cs_int (by rfl) T.z_int boot_int (da_v (de_cmp op_gt (rs_rel _) (de_var (pv 1 rfl (.inr (.inl rfl)))) de_int (nomark _)) da_nil)))) da_nil)) (alen_s (alen_v alen_nil))))
    (ds_cons (ds_par2 (by decide) (by decide) (ps_par (i := 5) (j := 6) rfl nd rfl rfl (by decide) rfl rfl (da_v (de_call G.law_name hr (by rfl) T.m_law_name T.f_law_name.kp T.b_law_name (da_s (pv 0 rfl (.inr (.inl rfl))) da_nil) (alen_s alen_nil)) (da_v (de_call G.law_name hr (by rfl) T.m_law_name T.f_law_name.kp T.b_law_name (da_s (pv 0 rfl (.inr (.inl rfl))) da_nil) (alen_s alen_nil)) da_nil)) (by rfl)))
    (ds_cons (ds_if (dt_cmp (op_eqA hu) rs_eq (de_var (pv 4 rfl (.inl rfl))) (de_str (by decide)) (nomark _)) (ds_one (ds_ret (de_tup (da_v (de_var (pv 4 rfl (.inl rfl))) (da_v (de_tup (da_v (de_str (by decide)) (da_v (de_var (pv 5 rfl (.inl rfl))) (da_v de_non (da_v (de_call G.law_arguments hr (by rfl) T.m_law_arguments T.f_law_arguments.kp T.b_law_arguments (da_s (pv 0 rfl (.inr (.inl rfl))) (da_v (de_bin op_addD rs_add de_int (de_call G.law_take hr (by rfl) T.m_law_take T.f_law_take.kp T.b_law_take (da_s (pv 0 rfl (.inr (.inl rfl))) (da_v de_int da_nil)) (alen_s (alen_v alen_nil)))) (da_s (pv 2 rfl (.inr (.inl rfl))) da_nil))) (alen_s (alen_v (alen_s alen_nil)))) da_nil))))) da_nil))))) ds_nil)
    (ds_cons (ds_if (dt_cmp (op_eqA hu) rs_eq (de_var (pv 4 rfl (.inl rfl))) (de_str (by decide)) (nomark _)) (ds_one (ds_ret (de_tup (da_v (de_var (pv 4 rfl (.inl rfl))) (da_v (de_call G.law_num hr (by rfl) T.m_law_num T.f_law_num.kp T.b_law_num (da_s (pv 0 rfl (.inr (.inl rfl))) da_nil) (alen_s alen_nil)) da_nil))))) ds_nil)
    (ds_cons (ds_if (dt_cmp op_inA rs_in (de_var (pv 4 rfl (.inl rfl))) (de_tup (da_v (de_str (by decide)) (da_v (de_str (by decide)) da_nil))) (by rfl)) (ds_one (ds_ret (de_tup (da_v (de_var (pv 4 rfl (.inl rfl))) (da_v (de_var (pv 5 rfl (.inl rfl))) da_nil))))) ds_nil)
    (ds_cons (ds_if (dt_cmp op_inA rs_in (de_var (pv 4 rfl (.inl rfl))) (de_tup (da_v (de_str (by decide)) (da_v (de_str (by decide)) (da_v (de_str (by decide)) da_nil)))) (by rfl)) (ds_one (ds_ret (de_bin op_addD rs_add (de_sl (de_tup (da_v (de_var (pv 4 rfl (.inl rfl))) (da_v (de_var (pv 5 rfl (.inl rfl))) (da_v (de_var (pv 6 rfl (.inl rfl))) da_nil)))) do_none (do_some (de_bin op_sub rs_sub de_int (de_callTy call_int1 cs_int (by rfl) T.z_int boot_int (da_v (de_cmp (op_eqA hu) rs_eq (de_var (pv 4 rfl (.inl rfl))) (de_str (by decide)) (nomark _)) da_nil))))) (de_tup (da_v (de_call G.law_block hr (by rfl) T.m_law_block T.f_law_block.kp T.b_law_block (da_s (pv 0 rfl (.inr (.inl rfl))) (da_v (de_bin op_sub rs_sub (de_var (pv 1 rfl (.inr (.inl rfl)))) de_int) (da_s (pv 2 rfl (.inr (.inl rfl))) da_nil))) (alen_s (alen_v (alen_s alen_nil)))) da_nil))))) ds_nil)
    (ds_cons (ds_set (by decide) (fun h => ps_set (i := 7) nd rfl (Or.inl rfl) h) (de_call G.law_expression hr (by rfl) T.m_law_expression T.f_law_expression.kp T.b_law_expression (da_s (pv 0 rfl (.inr (.inl rfl))) (da_v (de_bin op_addD rs_add de_int (de_call G.law_take hr (by rfl) T.m_law_take T.f_law_take.kp T.b_law_take (da_s (pv 0 rfl (.inr (.inl rfl))) (da_v de_int da_nil)) (alen_s (alen_v alen_nil)))) (da_s (pv 2 rfl (.inr (.inl rfl))) da_nil))) (alen_s (alen_v (alen_s alen_nil)))))
    (ds_cons (ds_if (dt_cmp (op_eqA hu) rs_eq (de_var (pv 4 rfl (.inl rfl))) (de_str (by decide)) (nomark _)) (ds_one (ds_ret (de_tup (da_v (de_var (pv 4 rfl (.inl rfl))) (da_v (de_var (pv 5 rfl (.inl rfl))) (da_v (de_var (pv 6 rfl (.inl rfl))) (da_v (de_var (pv 7 rfl (.inl rfl))) da_nil))))))) ds_nil)
    (ds_cons (ds_if (dt_cmp op_inA rs_in (de_var (pv 4 rfl (.inl rfl))) (de_tup (da_v (de_str (by decide)) (da_v (de_str (by decide)) da_nil))) (by rfl)) (ds_one (ds_ret (de_tup (da_v (de_var (pv 4 rfl (.inl rfl))) (da_v (de_var (pv 7 rfl (.inl rfl))) da_nil))))) ds_nil)
    (ds_cons (ds_if (dt_cmp op_inA rs_in (de_var (pv 4 rfl (.inl rfl))) (de_tup (da_v (de_str (by decide)) (da_v (de_str (by decide)) da_nil))) (by rfl)) (ds_cons (ds_setLcV (i := 8) (by decide) rfl rfl (sw_true rfl rfl rfl rfl) (own := [(("_law_k" : Str), 9)]) (tok_n (by decide)) (tin_n (by decide)) rfl nd (di_rng1 (by rfl) T.z_range (da_v (de_bin op_sub rs_sub de_int (de_callTy call_int1 cs_int (by rfl) T.z_int boot_int (da_v (de_cmp (op_eqA hu) rs_eq (de_var (pv 4 rfl (.inl rfl))) (de_str (by decide)) (nomark _)) da_nil))) da_nil)) (blkOk_by (show blkC [("_law_hand_here" : Str), ("_law_deep" : Str), ("_law_room" : Str), ("_law_words" : Str), ("_law_word" : Str), ("_law_name_here" : Str), ("_law_other" : Str), ("_law_worth" : Str), ("_law_blocks" : Str), ("_law_k" : Str)] (defScope s_law_statement) _ _ = true by decide +kernel)) (fun _ _ _ _ _ => (dg_name (pg_name (i := 9) nd rfl (Or.inl rfl)))) (fun _ _ _ _ _ => dts_nil) (fun _ _ _ _ _ => (de_call G.law_block hr (by rfl) T.m_law_block T.f_law_block.kp T.b_law_block (da_s (pv 0 rfl (.inr (.inl rfl))) (da_v (de_bin op_sub rs_sub (de_var (pv 1 rfl (.inr (.inl rfl)))) de_int) (da_s (pv 2 rfl (.inr (.inl rfl))) da_nil))) (alen_s (alen_v (alen_s alen_nil))))))
    (ds_one (ds_ret (de_bin op_addD rs_add (de_tup (da_v (de_var (pv 4 rfl (.inl rfl))) (da_v (de_var (pv 7 rfl (.inl rfl))) da_nil))) (de_callTy call_tuple_of cs_tup (by rfl) T.z_tuple boot_tuple (da_v (de_var (pv 8 rfl (.inl rfl))) da_nil)))))) ds_nil)
    (ds_one (ds_ret (de_tup (da_v (de_var (pv 4 rfl (.inl rfl))) (da_v (de_var (pv 5 rfl (.inl rfl))) (da_v (de_var (pv 7 rfl (.inl rfl))) da_nil))))))))))))))))))
theorem sc_law_block : FnScope [("_law_hand_here" : Str), ("_law_deep" : Str), ("_law_room" : Str), ("_law_some" : Str), ("_law_k" : Str)] [("_law_hand_here" : Str), ("_law_deep" : Str), ("_law_room" : Str)] (defScope s_law_block) := ⟨rfl, rfl, rfl, by decide +kernel, rfl, by decide +kernel, by decide +kernel⟩
theorem ok_law_block (T : Tp w K mg fds) (G : AllOk P w K mg base fds k F) : FnOk P w K mg base CX0 (k + 1) (He.ga K ("_law_block" : Str)) (fds 28) [("_law_hand_here" : Str), ("_law_deep" : Str), ("_law_room" : Str)] (spF K 3 [0, 2] (step F).law_block) := by
  refine fn_ok T.f_law_block sc_law_block rfl fun cdv A outer s H E hr => ?_
  have hu := hr.units
  have nd := (sc_law_block).nd
  exact (ds_cons (ds_own (by decide) (ll_lst da_nil) (fun h => ps_set (i := 3) nd rfl (Or.inl rfl) h))
    (ds_cons (ds_for (tok_n (by decide)) PassesOwn.never rfl (di_rng1 (by rfl) T.z_range (da_v (de_call G.law_take hr (by rfl) T.m_law_take T.f_law_take.kp T.b_law_take (da_s (pv 0 rfl (.inl rfl)) (da_v de_int da_nil)) (alen_s (alen_v alen_nil))) da_nil)) (dg_name (pg_name (i := 4) nd rfl (.inl rfl))) (ds_one (ds_if (dt_cmp op_gt (rs_rel _) (de_ix_l ix_seq rs_ix (pv 2 rfl (.inl rfl)) de_int (fun _ _ => rfl)) de_int (nomark _)) (ds_one (ds_app (x := .Name ("_law_some" : Str) ⟨0, 0, 0, 0⟩) (pv 3 rfl (.inl rfl)) (de_call G.law_statement hr (by rfl) T.m_law_statement T.f_law_statement.kp T.b_law_statement (da_s (pv 0 rfl (.inl rfl)) (da_v (de_var (pv 1 rfl (.inl rfl))) (da_s (pv 2 rfl (.inl rfl)) da_nil))) (alen_s (alen_v (alen_s alen_nil)))) (fun h => ps_expr (pe_bm PySem.F.plainAttrs_list PySem.F.slot_list_append PySem.F.type_list_append mt_append (pv 3 rfl (.inl rfl)) (pa_cons h pa_nil))))) ds_nil)))
    (ds_one (ds_ret (de_callTy call_tuple_of cs_tup (by rfl) T.z_tuple boot_tuple (da_s (pv 3 rfl (.inl rfl)) da_nil))))))
theorem sc_law_odd : FnScope [("_law_hand_here" : Str), ("_law_name_here" : Str), ("_law_some" : Str)] [("_law_hand_here" : Str), ("_law_name_here" : Str)] (defScope s_law_odd) := ⟨rfl, rfl, rfl, by decide +kernel, rfl, by decide +kernel, by decide +kernel⟩
theorem ok_law_odd (T : Tp w K mg fds) (G : AllOk P w K mg base fds k F) : FnOk P w K mg base CX0 (k + 1) (He.ga K ("_law_odd" : Str)) (fds 29) [("_law_hand_here" : Str), ("_law_name_here" : Str)] (spF K 2 [0] (step F).law_odd) := by
  refine fn_ok T.f_law_odd sc_law_odd rfl fun cdv A outer s H E hr => ?_
  have hu := hr.units
  have nd := (sc_law_odd).nd
  exact (ds_cons (ds_set (by decide) (fun h => ps_set (i := 2) nd rfl (Or.inl rfl) h) (de_lst (da_v de_non (da_v de_bl (da_v de_bl (da_v de_int (da_v de_int (da_v (de_bin op_addD rs_add (de_bin op_pow rs_pow de_int de_int) de_int) (da_v (de_bin op_sub rs_sub (de_bin op_sub rs_sub de_int (de_bin op_pow rs_pow de_int de_int)) de_int) (da_v (de_bin op_pow rs_pow de_int de_int) (da_v (de_bin op_pow rs_pow de_int de_int) (da_v (de_str (by decide)) (da_v (de_str (by decide)) (da_v (de_str (by decide)) (da_v (de_str (by decide)) da_nil)))))))))))))))
    (ds_cons (ds_set (by decide) (fun h => ps_set (i := 2) nd rfl (Or.inl rfl) h) (de_bin op_addD rs_add (de_var (pv 2 rfl (.inl rfl))) (de_lst (da_v (de_str (by decide)) (da_v (de_str (by decide)) (da_v (de_str (by decide)) (da_v (de_str (by decide)) (da_v (de_str (by decide)) (da_v (de_str (by decide)) (da_v (de_str (by decide)) (da_v (de_str (by decide)) (da_v (de_str (by decide)) (da_v (de_str (by decide)) (da_v (de_str (by decide)) (da_v (de_var (pv 1 rfl (.inl rfl))) (da_v (de_tup da_nil) (da_v (de_tup (da_v (de_str (by decide)) da_nil)) da_nil)))))))))))))))))
    (ds_cons (ds_set (by decide) (fun h => ps_set (i := 2) nd rfl (Or.inl rfl) h) (de_bin op_addD rs_add (de_var (pv 2 rfl (.inl rfl))) (de_lst (da_v (de_tup (da_v (de_str (by decide)) (da_v de_int da_nil))) (da_v (de_tup (da_v (de_str (by decide)) (da_v (de_var (pv 1 rfl (.inl rfl))) da_nil))) (da_v (de_tup (da_v (de_str (by decide)) (da_v (de_tup (da_v (de_str (by decide)) (da_v de_int da_nil))) da_nil))) (da_v (de_lst da_nil) (da_v (de_emp pe_dnewK) (da_v (de_lst (da_v (de_var (pv 1 rfl (.inl rfl))) da_nil)) (da_v (de_tup (da_v (de_var (pv 1 rfl (.inl rfl))) da_nil)) (da_v (de_tup (da_v (de_tup da_nil) da_nil)) (da_v (de_str (by decide)) da_nil))))))))))))
    (ds_one (ds_ret (de_call G.law_of hr (by rfl) T.m_law_of T.f_law_of.kp T.b_law_of (da_s (pv 0 rfl (.inl rfl)) (da_v (de_bin op_addD rs_add (de_var (pv 2 rfl (.inl rfl))) (de_lst (da_v (de_tup (da_v (de_str (by decide)) (da_v (de_tup (da_v (de_str (by decide)) (da_v de_int da_nil))) da_nil))) (da_v (de_tup (da_v (de_str (by decide)) (da_v (de_var (pv 1 rfl (.inl rfl))) da_nil))) (da_v (de_tup (da_v (de_str (by decide)) (da_v (de_str (by decide)) da_nil))) (da_v (de_tup (da_v (de_str (by decide)) (da_v (de_var (pv 1 rfl (.inl rfl))) (da_v (de_var (pv 1 rfl (.inl rfl))) da_nil)))) da_nil)))))) da_nil)) (alen_s (alen_v alen_nil))))))))
theorem sc_law_spoilt : FnScope [("_law_hand_here" : Str), ("_law_thing" : Str), ("_law_at" : Str), ("_law_pick" : Str), ("_law_to" : Str)] [("_law_hand_here" : Str), ("_law_thing" : Str)] (defScope s_law_spoilt) := ⟨rfl, rfl, rfl, by decide +kernel, rfl, by decide +kernel, by decide +kernel⟩
theorem ok_law_spoilt (T : Tp w K mg fds) (G : AllOk P w K mg base fds k F) : FnOk P w K mg base CX0 (k + 1) (He.ga K ("_law_spoilt" : Str)) (fds 30) [("_law_hand_here" : Str), ("_law_thing" : Str)] (spF K 2 [0] (step F).law_spoilt) := by
  refine fn_ok T.f_law_spoilt sc_law_spoilt rfl fun cdv A outer s H E hr => ?_
  have hu := hr.units
  have nd := (sc_law_spoilt).nd
  exact (ds_cons (ds_if (PW.pt (dw_or (dt_not (dt_val (de_isi kb_tup (by rfl) T.z_isinstance (de_var (pv 1 rfl (.inl rfl))) (pe_bltn (v := .ty "tuple") (by rfl) T.z_tuple boot_tuple rfl)))) (dw_or1 (dt_cmp (op_eqA hu) rs_eq (de_var (pv 1 rfl (.inl rfl))) (de_tup da_nil) (nomark _))))) (ds_one (ds_ret (de_call G.law_odd hr (by rfl) T.m_law_odd T.f_law_odd.kp T.b_law_odd (da_s (pv 0 rfl (.inl rfl)) (da_v (de_str (by decide)) da_nil)) (alen_s (alen_v alen_nil))))) ds_nil)
    (ds_cons (ds_par3 (by decide) (by decide) (by decide) (ps_par3 (i := 2) (j := 3) (l := 4) rfl nd rfl rfl rfl (by decide) (by decide) (by decide) rfl rfl rfl (da_v (de_call G.law_take hr (by rfl) T.m_law_take T.f_law_take.kp T.b_law_take (da_s (pv 0 rfl (.inl rfl)) (da_v (de_callB call_len cs_len (by rfl) T.z_len boot_len (da_v (de_var (pv 1 rfl (.inl rfl))) da_nil)) da_nil)) (alen_s (alen_v alen_nil))) (da_v (de_call G.law_take hr (by rfl) T.m_law_take T.f_law_take.kp T.b_law_take (da_s (pv 0 rfl (.inl rfl)) (da_v de_int da_nil)) (alen_s (alen_v alen_nil))) (da_v (de_call G.law_take hr (by rfl) T.m_law_take T.f_law_take.kp T.b_law_take (da_s (pv 0 rfl (.inl rfl)) (da_v (de_callB call_len cs_len (by rfl) T.z_len boot_len (da_v (de_var (pv 1 rfl (.inl rfl))) da_nil)) da_nil)) (alen_s (alen_v alen_nil))) da_nil))) (by rfl)))
    (ds_cons (ds_if (PW.pt (dw_and (dt_cmp op_gt (rs_rel _) (de_var (pv 3 rfl (.inl rfl))) de_int (nomark _)) (dw_and1 (dt_val (de_isi kb_tup (by rfl) T.z_isinstance (de_ix ix_seq rs_ix (de_var (pv 1 rfl (.inl rfl))) (de_var (pv 2 rfl (.inl rfl))) (fun _ _ => rfl)) (pe_bltn (v := .ty "tuple") (by rfl) T.z_tuple boot_tuple rfl)))))) (ds_one (ds_ret (de_bin op_addD rs_add (de_bin op_addD rs_add (de_sl (de_var (pv 1 rfl (.inl rfl))) do_none (do_some (de_var (pv 2 rfl (.inl rfl))))) (de_tup (da_v (de_call G.law_spoilt hr (by rfl) T.m_law_spoilt T.f_law_spoilt.kp T.b_law_spoilt (da_s (pv 0 rfl (.inl rfl)) (da_v (de_ix ix_seq rs_ix (de_var (pv 1 rfl (.inl rfl))) (de_var (pv 2 rfl (.inl rfl))) (fun _ _ => rfl)) da_nil)) (alen_s (alen_v alen_nil))) da_nil))) (de_sl (de_var (pv 1 rfl (.inl rfl))) (do_some (de_bin op_addD rs_add (de_var (pv 2 rfl (.inl rfl))) de_int)) do_none)))) ds_nil)
    (ds_cons (ds_if (dt_cmp (op_eqA hu) rs_eq (de_var (pv 3 rfl (.inl rfl))) de_int (nomark _)) (ds_one (ds_ret (de_bin op_addD rs_add (de_sl (de_var (pv 1 rfl (.inl rfl))) do_none (do_some (de_var (pv 2 rfl (.inl rfl))))) (de_sl (de_var (pv 1 rfl (.inl rfl))) (do_some (de_bin op_addD rs_add (de_var (pv 2 rfl (.inl rfl))) de_int)) do_none)))) ds_nil)
    (ds_cons (ds_if (dt_cmp (op_eqA hu) rs_eq (de_var (pv 3 rfl (.inl rfl))) de_int (nomark _)) (ds_one (ds_ret (de_bin op_addD rs_add (de_bin op_addD rs_add (de_sl (de_var (pv 1 rfl (.inl rfl))) do_none (do_some (de_var (pv 2 rfl (.inl rfl))))) (de_tup (da_v (de_ix ix_seq rs_ix (de_var (pv 1 rfl (.inl rfl))) (de_var (pv 4 rfl (.inl rfl))) (fun _ _ => rfl)) da_nil))) (de_sl (de_var (pv 1 rfl (.inl rfl))) (do_some (de_var (pv 2 rfl (.inl rfl)))) do_none)))) ds_nil)
    (ds_cons (ds_if (dt_cmp (op_eqA hu) rs_eq (de_var (pv 3 rfl (.inl rfl))) de_int (nomark _)) (ds_one (ds_ret (de_if (dt_cmp (op_eqA hu) rs_eq (de_var (pv 4 rfl (.inl rfl))) (de_var (pv 2 rfl (.inl rfl))) (nomark _)) (de_callTy call_list_of cs_list (by rfl) T.z_list boot_list (da_v (de_var (pv 1 rfl (.inl rfl))) da_nil)) (de_bin op_addD rs_add (de_bin op_addD rs_add (de_sl (de_var (pv 1 rfl (.inl rfl))) do_none (do_some (de_var (pv 2 rfl (.inl rfl))))) (de_tup (da_v (de_ix ix_seq rs_ix (de_var (pv 1 rfl (.inl rfl))) (de_var (pv 4 rfl (.inl rfl))) (fun _ _ => rfl)) da_nil))) (de_sl (de_var (pv 1 rfl (.inl rfl))) (do_some (de_bin op_addD rs_add (de_var (pv 2 rfl (.inl rfl))) de_int)) do_none))))) ds_nil)
    (ds_one (ds_ret (de_bin op_addD rs_add (de_bin op_addD rs_add (de_sl (de_var (pv 1 rfl (.inl rfl))) do_none (do_some (de_var (pv 2 rfl (.inl rfl))))) (de_tup (da_v (de_call G.law_odd hr (by rfl) T.m_law_odd T.f_law_odd.kp T.b_law_odd (da_s (pv 0 rfl (.inl rfl)) (da_v (de_str (by decide)) da_nil)) (alen_s (alen_v alen_nil))) da_nil))) (de_sl (de_var (pv 1 rfl (.inl rfl))) (do_some (de_bin op_addD rs_add (de_var (pv 2 rfl (.inl rfl))) de_int)) do_none))))))))))
theorem sc_law_is_name : FnScope [("_law_thing" : Str), ("_law_sign" : Str)] [("_law_thing" : Str)] (defScope s_law_is_name) := ⟨rfl, rfl, rfl, by decide +kernel, rfl, by decide +kernel, by decide +kernel⟩
theorem ok_law_is_name (T : Tp w K mg fds) (G : AllOk P w K mg base fds k F) : FnOk P w K mg base CX0 (k + 1) (He.ga K ("_law_is_name" : Str)) (fds 31) [("_law_thing" : Str)] (spF K 1 [] (step F).law_is_name) := by
  refine fn_ok T.f_law_is_name sc_law_is_name rfl fun cdv A outer s H E hr => ?_
  have hu := hr.units
  have nd := (sc_law_is_name).nd
  exact (ds_cons (ds_if (PW.pt (dw_or (dt_not (dt_val (de_isi kb_str (by rfl) T.z_isinstance (de_var (pv 0 rfl (.inl rfl))) (pe_bltn (v := .ty "str") (by rfl) T.z_str boot_str rfl)))) (dw_or (dt_cmp (op_eqA hu) rs_eq (de_callB call_len cs_len (by rfl) T.z_len boot_len (da_v (de_var (pv 0 rfl (.inl rfl))) da_nil)) de_int (nomark _)) (dw_or (dt_cmp op_gt (rs_rel _) (de_callB call_len cs_len (by rfl) T.z_len boot_len (da_v (de_var (pv 0 rfl (.inl rfl))) da_nil)) de_int (nomark _)) (dw_or1 (dt_cmp op_inA rs_in (de_var (pv 0 rfl (.inl rfl))) (de_call0 G.law_keywords hr (by rfl) T.m_law_keywords T.f_law_keywords.kp T.b_law_keywords) (by rfl))))))) (ds_one (ds_ret de_bl)) ds_nil)
    (ds_one (ds_ret (de_cmp (op_eqL hu) rs_eqL (ld_val (ll_lc (own := [(("_law_sign" : Str), 1)]) (tok_n (by decide)) (tin_n (by decide)) rfl nd (di_str (de_var (pv 0 rfl (.inl rfl)))) (blkOk_by (show blkC [("_law_thing" : Str), ("_law_sign" : Str)] (defScope s_law_is_name) _ _ = true by decide +kernel)) (fun _ _ _ _ _ => (dg_name (pg_name (i := 1) nd rfl (Or.inl rfl)))) (fun _ _ _ _ _ => (dts_one (dt_cmp op_notInA rs_notIn (de_var (pv 1 rfl (.inl rfl))) (de_str (by decide)) (by rfl)))) (fun _ _ _ _ _ => (de_var (pv 1 rfl (.inl rfl)))))) (de_lst da_nil) (nomark _)))))
theorem sc_law_is_num : FnScope [("_law_thing" : Str)] [("_law_thing" : Str)] (defScope s_law_is_num) := ⟨rfl, rfl, rfl, by decide +kernel, rfl, by decide +kernel, by decide +kernel⟩
theorem ok_law_is_num (T : Tp w K mg fds) (G : AllOk P w K mg base fds k F) : FnOk P w K mg base CX0 (k + 1) (He.ga K ("_law_is_num" : Str)) (fds 32) [("_law_thing" : Str)] (spF K 1 [] (step F).law_is_num) := by
  refine fn_ok T.f_law_is_num sc_law_is_num rfl fun cdv A outer s H E hr => ?_
  have hu := hr.units
  have nd := (sc_law_is_num).nd
  exact (ds_one (ds_ret (de_and (de_isi kb_int (by rfl) T.z_isinstance (de_var (pv 0 rfl (.inl rfl))) (pe_bltn (v := .ty "int") (by rfl) T.z_int boot_int rfl)) (de_and (de_not (de_isi kb_bool (by rfl) T.z_isinstance (de_var (pv 0 rfl (.inl rfl))) (pe_bltn (v := .ty "bool") (by rfl) T.z_bool boot_bool rfl))) (de_one (de_cmp op_le (rs_rel _) (de_callB call_abs cs_abs (by rfl) T.z_abs boot_abs (da_v (de_var (pv 0 rfl (.inl rfl))) da_nil)) (de_bin op_pow rs_pow de_int de_int) (nomark _)))))))
theorem sc_law_is_kind : FnScope [("_law_thing" : Str), ("_law_deep" : Str), ("_law_part" : Str)] [("_law_thing" : Str), ("_law_deep" : Str)] (defScope s_law_is_kind) := ⟨rfl, rfl, rfl, by decide +kernel, rfl, by decide +kernel, by decide +kernel⟩
theorem ok_law_is_kind (T : Tp w K mg fds) (G : AllOk P w K mg base fds k F) : FnOk P w K mg base CX0 (k + 1) (He.ga K ("_law_is_kind" : Str)) (fds 33) [("_law_thing" : Str), ("_law_deep" : Str)] (spF K 2 [] (step F).law_is_kind) := by
  refine fn_ok T.f_law_is_kind sc_law_is_kind rfl fun cdv A outer s H E hr => ?_
  have hu := hr.units
  have nd := (sc_law_is_kind).nd
  exact (ds_cons (ds_if (dt_cmp (op_eqA hu) rs_eq (de_var (pv 1 rfl (.inr (.inl rfl)))) de_int (nomark _)) (ds_one (ds_ret de_bl)) ds_nil)
    (ds_cons (ds_if (dt_val (de_isi kb_str (by rfl) T.z_isinstance (de_var (pv 0 rfl (.inl rfl))) (pe_bltn (v := .ty "str") (by rfl) T.z_str boot_str rfl))) (ds_one (ds_ret (de_or (de_cmp (op_eqA hu) rs_eq (de_var (pv 0 rfl (.inl rfl))) (de_str (by decide)) (nomark _)) (de_one (de_cmp (op_eqA hu) rs_eq (de_var (pv 0 rfl (.inl rfl))) (de_str (by decide)) (nomark _)))))) ds_nil)
    (ds_cons (ds_if (PW.pt (dw_or (dt_not (dt_val (de_isi kb_tup (by rfl) T.z_isinstance (de_var (pv 0 rfl (.inl rfl))) (pe_bltn (v := .ty "tuple") (by rfl) T.z_tuple boot_tuple rfl)))) (dw_or (dt_cmp op_notInA rs_notIn (de_callB call_len cs_len (by rfl) T.z_len boot_len (da_v (de_var (pv 0 rfl (.inl rfl))) da_nil)) (de_tup (da_v de_int (da_v de_int da_nil))) (by rfl)) (dw_or1 (dt_not (dt_val (de_isi kb_str (by rfl) T.z_isinstance (de_ix ix_seq rs_ix (de_var (pv 0 rfl (.inl rfl))) de_int (fun _ _ => rfl)) (pe_bltn (v := .ty "str") (by rfl) T.z_str boot_str rfl)))))))) (ds_one (ds_ret de_bl)) ds_nil)
    (ds_cons (ds_if (dt_cmp (op_neA hu) rs_ne (de_ix ix_seq rs_ix (de_var (pv 0 rfl (.inl rfl))) de_int (fun _ _ => rfl)) (de_ix ix_seq rs_ix (de_lst (da_v (de_str (by decide)) (da_v (de_str (by decide)) da_nil))) (de_bin op_sub rs_sub (de_callB call_len cs_len (by rfl) T.z_len boot_len (da_v (de_var (pv 0 rfl (.inl rfl))) da_nil)) de_int) (fun _ _ => rfl)) (nomark _)) (ds_one (ds_ret de_bl)) ds_nil)
    (ds_one (ds_ret (de_callB (cr_all rfl) cs_all (by rfl) T.z_all boot_all (da_v (ld_val (ll_lc (own := [(("_law_part" : Str), 2)]) (tok_n (by decide)) (tin_n (by decide)) rfl nd (di_tup (de_sl (de_var (pv 0 rfl (.inl rfl))) (do_some de_int) do_none)) (blkOk_by (show blkC [("_law_thing" : Str), ("_law_deep" : Str), ("_law_part" : Str)] (defScope s_law_is_kind) _ _ = true by decide +kernel)) (fun _ _ _ _ _ => (dg_name (pg_name (i := 2) nd rfl (Or.inl rfl)))) (fun _ _ _ _ _ => dts_nil) (fun _ _ _ _ _ => (de_call G.law_is_kind hr (by rfl) T.m_law_is_kind T.f_law_is_kind.kp T.b_law_is_kind (da_v (de_var (pv 2 rfl (.inl rfl))) (da_v (de_bin op_sub rs_sub (de_var (pv 1 rfl (.inr (.inl rfl)))) de_int) da_nil)) (alen_v (alen_v alen_nil)))))) da_nil))))))))
theorem sc_law_is_argument : FnScope [("_law_thing" : Str), ("_law_deep" : Str)] [("_law_thing" : Str), ("_law_deep" : Str)] (defScope s_law_is_argument) := ⟨rfl, rfl, rfl, by decide +kernel, rfl, by decide +kernel, by decide +kernel⟩
theorem ok_law_is_argument (T : Tp w K mg fds) (G : AllOk P w K mg base fds k F) : FnOk P w K mg base CX0 (k + 1) (He.ga K ("_law_is_argument" : Str)) (fds 34) [("_law_thing" : Str), ("_law_deep" : Str)] (spF K 2 [] (step F).law_is_argument) := by
  refine fn_ok T.f_law_is_argument sc_law_is_argument rfl fun cdv A outer s H E hr => ?_
  have hu := hr.units
  have nd := (sc_law_is_argument).nd
  exact (ds_cons (ds_if (PW.pt (dw_or (dt_not (dt_val (de_isi kb_tup (by rfl) T.z_isinstance (de_var (pv 0 rfl (.inl rfl))) (pe_bltn (v := .ty "tuple") (by rfl) T.z_tuple boot_tuple rfl)))) (dw_or (dt_cmp (op_neA hu) rs_ne (de_callB call_len cs_len (by rfl) T.z_len boot_len (da_v (de_var (pv 0 rfl (.inl rfl))) da_nil)) de_int (nomark _)) (dw_or1 (dt_not (dt_val (de_isi kb_str (by rfl) T.z_isinstance (de_ix ix_seq rs_ix (de_var (pv 0 rfl (.inl rfl))) de_int (fun _ _ => rfl)) (pe_bltn (v := .ty "str") (by rfl) T.z_str boot_str rfl)))))))) (ds_one (ds_ret de_bl)) ds_nil)
    (ds_cons (ds_if (dt_cmp (op_eqA hu) rs_eq (de_ix ix_seq rs_ix (de_var (pv 0 rfl (.inl rfl))) de_int (fun _ _ => rfl)) (de_str (by decide)) (nomark _)) (ds_one (ds_ret (de_call G.law_is_expression hr (by rfl) T.m_law_is_expression T.f_law_is_expression.kp T.b_law_is_expression (da_v (de_ix ix_seq rs_ix (de_var (pv 0 rfl (.inl rfl))) de_int (fun _ _ => rfl)) (da_v (de_var (pv 1 rfl (.inl rfl))) da_nil)) (alen_v (alen_v alen_nil))))) ds_nil)
    (ds_one (ds_ret (de_and (de_cmp op_inA rs_in (de_ix ix_seq rs_ix (de_var (pv 0 rfl (.inl rfl))) de_int (fun _ _ => rfl)) (de_lst (da_v (de_str (by decide)) (da_v (de_str (by decide)) da_nil))) (by rfl)) (de_one (de_call G.law_is_name hr (by rfl) T.m_law_is_name T.f_law_is_name.kp T.b_law_is_name (da_v (de_ix ix_seq rs_ix (de_var (pv 0 rfl (.inl rfl))) de_int (fun _ _ => rfl)) da_nil) (alen_v alen_nil))))))))
theorem sc_law_is_expression : FnScope [("_law_thing" : Str), ("_law_deep" : Str), ("_law_word" : Str), ("_law_many" : Str), ("_law_one" : Str), ("_law_part" : Str)] [("_law_thing" : Str), ("_law_deep" : Str)] (defScope s_law_is_expression) := ⟨rfl, rfl, rfl, by decide +kernel, rfl, by decide +kernel, by decide +kernel⟩
theorem ok_law_is_expression (T : Tp w K mg fds) (G : AllOk P w K mg base fds k F) : FnOk P w K mg base CX0 (k + 1) (He.ga K ("_law_is_expression" : Str)) (fds 35) [("_law_thing" : Str), ("_law_deep" : Str)] (spF K 2 [] (step F).law_is_expression) := by
  refine fn_ok T.f_law_is_expression sc_law_is_expression rfl fun cdv A outer s H E hr => ?_
  have hu := hr.units
  have nd := (sc_law_is_expression).nd
  exact (ds_cons (ds_if (PW.pt (dw_or (dt_cmp (op_eqA hu) rs_eq (de_var (pv 1 rfl (.inr (.inl rfl)))) de_int (nomark _)) (dw_or (dt_not (dt_val (de_isi kb_tup (by rfl) T.z_isinstance (de_var (pv 0 rfl (.inl rfl))) (pe_bltn (v := .ty "tuple") (by rfl) T.z_tuple boot_tuple rfl)))) (dw_or (dt_cmp (op_eqA hu) rs_eq (de_var (pv 0 rfl (.inl rfl))) (de_tup da_nil) (nomark _)) (dw_or1 (dt_not (dt_val (de_isi kb_str (by rfl) T.z_isinstance (de_ix ix_seq rs_ix (de_var (pv 0 rfl (.inl rfl))) de_int (fun _ _ => rfl)) (pe_bltn (v := .ty "str") (by rfl) T.z_str boot_str rfl))))))))) (ds_one (ds_ret de_bl)) ds_nil)
    (ds_cons (ds_par2 (by decide) (by decide) (ps_par (i := 2) (j := 3) rfl nd rfl rfl (by decide) rfl rfl (da_v (de_ix ix_seq rs_ix (de_var (pv 0 rfl (.inl rfl))) de_int (fun _ _ => rfl)) (da_v (de_callB call_len cs_len (by rfl) T.z_len boot_len (da_v (de_var (pv 0 rfl (.inl rfl))) da_nil)) da_nil)) (by rfl)))
    (ds_cons (ds_if (dt_cmp (op_eqA hu) rs_eq (de_var (pv 2 rfl (.inl rfl))) (de_str (by decide)) (nomark _)) (ds_one (ds_ret (de_and (de_cmp (op_eqA hu) rs_eq (de_var (pv 3 rfl (.inl rfl))) de_int (nomark _)) (de_one (de_call G.law_is_num hr (by rfl) T.m_law_is_num T.f_law_is_num.kp T.b_law_is_num (da_v (de_ix ix_seq rs_ix (de_var (pv 0 rfl (.inl rfl))) de_int (fun _ _ => rfl)) da_nil) (alen_v alen_nil)))))) ds_nil)
    (ds_cons (ds_if (dt_cmp op_inA rs_in (de_var (pv 2 rfl (.inl rfl))) (de_tup (da_v (de_str (by decide)) (da_v (de_str (by decide)) (da_v (de_str (by decide)) da_nil)))) (by rfl)) (ds_one (ds_ret (de_and (de_cmp (op_eqA hu) rs_eq (de_var (pv 3 rfl (.inl rfl))) de_int (nomark _)) (de_one (de_call G.law_is_name hr (by rfl) T.m_law_is_name T.f_law_is_name.kp T.b_law_is_name (da_v (de_ix ix_seq rs_ix (de_var (pv 0 rfl (.inl rfl))) de_int (fun _ _ => rfl)) da_nil) (alen_v alen_nil)))))) ds_nil)
    (ds_cons (ds_if (dt_cmp op_inA rs_in (de_var (pv 2 rfl (.inl rfl))) (de_tup (da_v (de_str (by decide)) (da_v (de_str (by decide)) (da_v (de_str (by decide)) da_nil)))) (by rfl)) (ds_one (ds_ret (de_and (de_cmp (op_eqA hu) rs_eq (de_var (pv 3 rfl (.inl rfl))) de_int (nomark _)) (de_one (de_call G.law_is_expression hr (by rfl) T.m_law_is_expression T.f_law_is_expression.kp T.b_law_is_expression (da_v (de_ix ix_seq rs_ix (de_var (pv 0 rfl (.inl rfl))) de_int (fun _ _ => rfl)) (da_v (de_bin op_sub rs_sub (de_var (pv 1 rfl (.inr (.inl rfl)))) de_int) da_nil)) (alen_v (alen_v alen_nil))))))) ds_nil)
    (ds_cons (ds_if (dt_cmp (op_eqA hu) rs_eq (de_var (pv 2 rfl (.inl rfl))) (de_str (by decide)) (nomark _)) (ds_cons (ds_if (PW.pt (dw_or (dt_cmp (op_neA hu) rs_ne (de_var (pv 3 rfl (.inl rfl))) de_int (nomark _)) (dw_or (dt_not (dt_val (de_call G.law_is_name hr (by rfl) T.m_law_is_name T.f_law_is_name.kp T.b_law_is_name (da_v (de_ix ix_seq rs_ix (de_var (pv 0 rfl (.inl rfl))) de_int (fun _ _ => rfl)) da_nil) (alen_v alen_nil)))) (dw_or1 (dt_not (PW.pt (dw_or (dt_isN (de_ix ix_seq rs_ix (de_var (pv 0 rfl (.inl rfl))) de_int (fun _ _ => rfl))) (dw_or1 (dt_val (de_call G.law_is_kind hr (by rfl) T.m_law_is_kind T.f_law_is_kind.kp T.b_law_is_kind (da_v (de_ix ix_seq rs_ix (de_var (pv 0 rfl (.inl rfl))) de_int (fun _ _ => rfl)) (da_v de_int da_nil)) (alen_v (alen_v alen_nil)))))))))))) (ds_one (ds_ret de_bl)) ds_nil)
    (ds_cons (ds_if (PW.pt (dw_or (dt_not (dt_val (de_isi kb_tup (by rfl) T.z_isinstance (de_ix ix_seq rs_ix (de_var (pv 0 rfl (.inl rfl))) de_int (fun _ _ => rfl)) (pe_bltn (v := .ty "tuple") (by rfl) T.z_tuple boot_tuple rfl)))) (dw_or1 (dt_cmp op_gt (rs_rel _) (de_callB call_len cs_len (by rfl) T.z_len boot_len (da_v (de_ix ix_seq rs_ix (de_var (pv 0 rfl (.inl rfl))) de_int (fun _ _ => rfl)) da_nil)) de_int (nomark _))))) (ds_one (ds_ret de_bl)) ds_nil)
    (ds_one (ds_ret (de_callB (cr_all rfl) cs_all (by rfl) T.z_all boot_all (da_v (ld_val (ll_lc (own := [(("_law_one" : Str), 4)]) (tok_n (by decide)) (tin_n (by decide)) rfl nd (di_tup (de_ix ix_seq rs_ix (de_var (pv 0 rfl (.inl rfl))) de_int (fun _ _ => rfl))) (blkOk_by (show blkC [("_law_thing" : Str), ("_law_deep" : Str), ("_law_word" : Str), ("_law_many" : Str), ("_law_one" : Str), ("_law_part" : Str)] (defScope s_law_is_expression) _ _ = true by decide +kernel)) (fun _ _ _ _ _ => (dg_name (pg_name (i := 4) nd rfl (Or.inl rfl)))) (fun _ _ _ _ _ => dts_nil) (fun _ _ _ _ _ => (de_call G.law_is_argument hr (by rfl) T.m_law_is_argument T.f_law_is_argument.kp T.b_law_is_argument (da_v (de_var (pv 4 rfl (.inl rfl))) (da_v (de_bin op_sub rs_sub (de_var (pv 1 rfl (.inr (.inl rfl)))) de_int) da_nil)) (alen_v (alen_v alen_nil)))))) da_nil)))))) ds_nil)
    (ds_cons (ds_if (dt_cmp (op_eqA hu) rs_eq (de_var (pv 2 rfl (.inl rfl))) (de_str (by decide)) (nomark _)) (ds_cons (ds_if (PW.pt (dw_or (dt_cmp (op_neA hu) rs_ne (de_var (pv 3 rfl (.inl rfl))) de_int (nomark _)) (dw_or (dt_not (dt_val (de_isi kb_str (by rfl) T.z_isinstance (de_ix ix_seq rs_ix (de_var (pv 0 rfl (.inl rfl))) de_int (fun _ _ => rfl)) (pe_bltn (v := .ty "str") (by rfl) T.z_str boot_str rfl)))) (dw_or1 (dt_cmp op_notInA rs_notIn (de_ix ix_seq rs_ix (de_var (pv 0 rfl (.inl rfl))) de_int (fun _ _ => rfl)) (de_lst (da_v (de_str (by decide)) (da_v (de_str (by decide)) (da_v (de_str (by decide)) (da_v (de_str (by decide)) (da_v (de_str (by decide)) (da_v (de_str (by decide)) da_nil))))))) (by rfl)))))) (ds_one (ds_ret de_bl)) ds_nil)
    (ds_one (ds_ret (de_and (de_call G.law_is_expression hr (by rfl) T.m_law_is_expression T.f_law_is_expression.kp T.b_law_is_expression (da_v (de_ix ix_seq rs_ix (de_var (pv 0 rfl (.inl rfl))) de_int (fun _ _ => rfl)) (da_v (de_bin op_sub rs_sub (de_var (pv 1 rfl (.inr (.inl rfl)))) de_int) da_nil)) (alen_v (alen_v alen_nil))) (de_one (de_call G.law_is_expression hr (by rfl) T.m_law_is_expression T.f_law_is_expression.kp T.b_law_is_expression (da_v (de_ix ix_seq rs_ix (de_var (pv 0 rfl (.inl rfl))) de_int (fun _ _ => rfl)) (da_v (de_bin op_sub rs_sub (de_var (pv 1 rfl (.inr (.inl rfl)))) de_int) da_nil)) (alen_v (alen_v alen_nil)))))))) ds_nil)
    (ds_one (ds_ret (de_and (de_cmp (op_eqA hu) rs_eq (de_var (pv 2 rfl (.inl rfl))) (de_str (by decide)) (nomark _)) (de_and (de_cmp (op_eqA hu) rs_eq (de_var (pv 3 rfl (.inl rfl))) de_int (nomark _)) (de_one (de_callB (cr_all rfl) cs_all (by rfl) T.z_all boot_all (da_v (ld_val (ll_lc (own := [(("_law_part" : Str), 5)]) (tok_n (by decide)) (tin_n (by decide)) rfl nd (di_tup (de_sl (de_var (pv 0 rfl (.inl rfl))) (do_some de_int) do_none)) (blkOk_by (show blkC [("_law_thing" : Str), ("_law_deep" : Str), ("_law_word" : Str), ("_law_many" : Str), ("_law_one" : Str), ("_law_part" : Str)] (defScope s_law_is_expression) _ _ = true by decide +kernel)) (fun _ _ _ _ _ => (dg_name (pg_name (i := 5) nd rfl (Or.inl rfl)))) (fun _ _ _ _ _ => dts_nil) (fun _ _ _ _ _ => (de_call G.law_is_expression hr (by rfl) T.m_law_is_expression T.f_law_is_expression.kp T.b_law_is_expression (da_v (de_var (pv 5 rfl (.inl rfl))) (da_v (de_bin op_sub rs_sub (de_var (pv 1 rfl (.inr (.inl rfl)))) de_int) da_nil)) (alen_v (alen_v alen_nil)))))) da_nil))))))))))))))
theorem sc_law_is_statement : FnScope [("_law_thing" : Str), ("_law_left" : Str), ("_law_word" : Str), ("_law_many" : Str), ("_law_fine" : Str), ("_law_one" : Str)] [("_law_thing" : Str), ("_law_left" : Str)] (defScope s_law_is_statement) := ⟨rfl, rfl, rfl, by decide +kernel, rfl, by decide +kernel, by decide +kernel⟩
theorem ok_law_is_statement (T : Tp w K mg fds) (G : AllOk P w K mg base fds k F) : FnOk P w K mg base CX0 (k + 1) (He.ga K ("_law_is_statement" : Str)) (fds 36) [("_law_thing" : Str), ("_law_left" : Str)] (spF K 2 [] (step F).law_is_statement) := by
  refine fn_ok T.f_law_is_statement sc_law_is_statement rfl fun cdv A outer s H E hr => ?_
  have hu := hr.units
  have nd := (sc_law_is_statement).nd
  exact (ds_cons (ds_if (PW.pt (dw_or (dt_not (dt_val (de_isi kb_tup (by rfl) T.z_isinstance (de_var (pv 0 rfl (.inl rfl))) (pe_bltn (v := .ty "tuple") (by rfl) T.z_tuple boot_tuple rfl)))) (dw_or (dt_cmp (op_eqA hu) rs_eq (de_var (pv 0 rfl (.inl rfl))) (de_tup da_nil) (nomark _)) (dw_or1 (dt_not (dt_val (de_isi kb_str (by rfl) T.z_isinstance (de_ix ix_seq rs_ix (de_var (pv 0 rfl (.inl rfl))) de_int (fun _ _ => rfl)) (pe_bltn (v := .ty "str") (by rfl) T.z_str boot_str rfl)))))))) (ds_one (ds_ret de_bl)) ds_nil)
    (ds_cons (ds_par2 (by decide) (by decide) (ps_par (i := 2) (j := 3) rfl nd rfl rfl (by decide) rfl rfl (da_v (de_ix ix_seq rs_ix (de_var (pv 0 rfl (.inl rfl))) de_int (fun _ _ => rfl)) (da_v (de_callB call_len cs_len (by rfl) T.z_len boot_len (da_v (de_var (pv 0 rfl (.inl rfl))) da_nil)) da_nil)) (by rfl)))
    (ds_cons (ds_if (dt_cmp op_inA rs_in (de_var (pv 2 rfl (.inl rfl))) (de_tup (da_v (de_str (by decide)) (da_v (de_str (by decide)) (da_v (de_str (by decide)) (da_v (de_str (by decide)) da_nil))))) (by rfl)) (ds_one (ds_ret (de_and (de_cmp (op_eqA hu) rs_eq (de_var (pv 3 rfl (.inl rfl))) de_int (nomark _)) (de_and (de_call G.law_is_name hr (by rfl) T.m_law_is_name T.f_law_is_name.kp T.b_law_is_name (da_v (de_ix ix_seq rs_ix (de_var (pv 0 rfl (.inl rfl))) de_int (fun _ _ => rfl)) da_nil) (alen_v alen_nil)) (de_one (de_call G.law_is_expression hr (by rfl) T.m_law_is_expression T.f_law_is_expression.kp T.b_law_is_expression (da_v (de_ix ix_seq rs_ix (de_var (pv 0 rfl (.inl rfl))) de_int (fun _ _ => rfl)) (da_v de_int da_nil)) (alen_v (alen_v alen_nil)))))))) ds_nil)
    (ds_cons (ds_if (dt_cmp (op_eqA hu) rs_eq (de_var (pv 2 rfl (.inl rfl))) (de_str (by decide)) (nomark _)) (ds_one (ds_ret (de_and (de_cmp (op_eqA hu) rs_eq (de_var (pv 3 rfl (.inl rfl))) de_int (nomark _)) (de_and (de_callB (cr_all rfl) cs_all (by rfl) T.z_all boot_all (da_v (ld_val (ll_lc (own := [(("_law_one" : Str), 5)]) (tok_n (by decide)) (tin_n (by decide)) rfl nd (di_tup (de_sl (de_var (pv 0 rfl (.inl rfl))) (do_some de_int) (do_some de_int))) (blkOk_by (show blkC [("_law_thing" : Str), ("_law_left" : Str), ("_law_word" : Str), ("_law_many" : Str), ("_law_fine" : Str), ("_law_one" : Str)] (defScope s_law_is_statement) _ _ = true by decide +kernel)) (fun _ _ _ _ _ => (dg_name (pg_name (i := 5) nd rfl (Or.inl rfl)))) (fun _ _ _ _ _ => dts_nil) (fun _ _ _ _ _ => (de_call G.law_is_name hr (by rfl) T.m_law_is_name T.f_law_is_name.kp T.b_law_is_name (da_v (de_var (pv 5 rfl (.inl rfl))) da_nil) (alen_v alen_nil))))) da_nil)) (de_one (de_call G.law_is_expression hr (by rfl) T.m_law_is_expression T.f_law_is_expression.kp T.b_law_is_expression (da_v (de_ix ix_seq rs_ix (de_var (pv 0 rfl (.inl rfl))) de_int (fun _ _ => rfl)) (da_v de_int da_nil)) (alen_v (alen_v alen_nil)))))))) ds_nil)
    (ds_cons (ds_if (dt_cmp op_inA rs_in (de_var (pv 2 rfl (.inl rfl))) (de_tup (da_v (de_str (by decide)) (da_v (de_str (by decide)) da_nil))) (by rfl)) (ds_one (ds_ret (de_and (de_cmp (op_eqA hu) rs_eq (de_var (pv 3 rfl (.inl rfl))) de_int (nomark _)) (de_one (de_call G.law_is_expression hr (by rfl) T.m_law_is_expression T.f_law_is_expression.kp T.b_law_is_expression (da_v (de_ix ix_seq rs_ix (de_var (pv 0 rfl (.inl rfl))) de_int (fun _ _ => rfl)) (da_v de_int da_nil)) (alen_v (alen_v alen_nil))))))) ds_nil)
    (ds_cons (ds_if (dt_cmp (op_eqA hu) rs_eq (de_var (pv 2 rfl (.inl rfl))) (de_str (by decide)) (nomark _)) (ds_one (ds_ret (de_and (de_cmp (op_eqA hu) rs_eq (de_var (pv 3 rfl (.inl rfl))) de_int (nomark _)) (de_and (de_call G.law_is_expression hr (by rfl) T.m_law_is_expression T.f_law_is_expression.kp T.b_law_is_expression (da_v (de_ix ix_seq rs_ix (de_var (pv 0 rfl (.inl rfl))) de_int (fun _ _ => rfl)) (da_v de_int da_nil)) (alen_v (alen_v alen_nil))) (de_one (de_cmp (op_eqA hu) rs_eq (de_ix ix_seq rs_ix (de_ix ix_seq rs_ix (de_var (pv 0 rfl (.inl rfl))) de_int (fun _ _ => rfl)) de_int (fun _ _ => rfl)) (de_str (by decide)) (nomark _))))))) ds_nil)
    (ds_cons (ds_if (dt_cmp op_inA rs_in (de_var (pv 2 rfl (.inl rfl))) (de_tup (da_v (de_str (by decide)) (da_v (de_str (by decide)) da_nil))) (by rfl)) (ds_one (ds_ret (de_and (de_cmp (op_eqA hu) rs_eq (de_var (pv 3 rfl (.inl rfl))) de_int (nomark _)) (de_one (de_call G.law_is_name hr (by rfl) T.m_law_is_name T.f_law_is_name.kp T.b_law_is_name (da_v (de_ix ix_seq rs_ix (de_var (pv 0 rfl (.inl rfl))) de_int (fun _ _ => rfl)) da_nil) (alen_v alen_nil)))))) ds_nil)
    (ds_cons (ds_if (dt_cmp (op_eqA hu) rs_eq (de_var (pv 2 rfl (.inl rfl))) (de_str (by decide)) (nomark _)) (ds_one (ds_ret (de_and (de_cmp (op_eqA hu) rs_eq (de_var (pv 3 rfl (.inl rfl))) de_int (nomark _)) (de_one (de_call G.law_is_num hr (by rfl) T.m_law_is_num T.f_law_is_num.kp T.b_law_is_num (da_v (de_ix ix_seq rs_ix (de_var (pv 0 rfl (.inl rfl))) de_int (fun _ _ => rfl)) da_nil) (alen_v alen_nil)))))) ds_nil)
    (ds_cons (ds_if (dt_cmp (op_eqA hu) rs_eq (de_var (pv 2 rfl (.inl rfl))) (de_str (by decide)) (nomark _)) (ds_cons (ds_set (by decide) (fun h => ps_set (i := 4) nd rfl (Or.inl rfl) h) (de_and (de_cmp (op_eqA hu) rs_eq (de_var (pv 3 rfl (.inl rfl))) de_int (nomark _)) (de_one (de_call G.law_is_expression hr (by rfl) T.m_law_is_expression T.f_law_is_expression.kp T.b_law_is_expression (da_v (de_ix ix_seq rs_ix (de_var (pv 0 rfl (.inl rfl))) de_int (fun _ _ => rfl)) (da_v de_int da_nil)) (alen_v (alen_v alen_nil))))))
    (ds_one (ds_ret (de_and (de_var (pv 4 rfl (.inl rfl))) (de_and (de_call G.law_is_block hr (by rfl) T.m_law_is_block T.f_law_is_block.kp T.b_law_is_block (da_v (de_ix ix_seq rs_ix (de_var (pv 0 rfl (.inl rfl))) de_int (fun _ _ => rfl)) (da_v (de_var (pv 1 rfl (.inl rfl))) da_nil)) (alen_v (alen_v alen_nil))) (de_one (de_call G.law_is_block hr (by rfl) T.m_law_is_block T.f_law_is_block.kp T.b_law_is_block (da_v (de_ix ix_seq rs_ix (de_var (pv 0 rfl (.inl rfl))) de_int (fun _ _ => rfl)) (da_v (de_var (pv 1 rfl (.inl rfl))) da_nil)) (alen_v (alen_v alen_nil))))))))) ds_nil)
    (ds_cons (ds_if (dt_cmp (op_eqA hu) rs_eq (de_var (pv 2 rfl (.inl rfl))) (de_str (by decide)) (nomark _)) (ds_one (ds_ret (de_and (de_cmp (op_eqA hu) rs_eq (de_var (pv 3 rfl (.inl rfl))) de_int (nomark _)) (de_and (de_call G.law_is_expression hr (by rfl) T.m_law_is_expression T.f_law_is_expression.kp T.b_law_is_expression (da_v (de_ix ix_seq rs_ix (de_var (pv 0 rfl (.inl rfl))) de_int (fun _ _ => rfl)) (da_v de_int da_nil)) (alen_v (alen_v alen_nil))) (de_one (de_call G.law_is_block hr (by rfl) T.m_law_is_block T.f_law_is_block.kp T.b_law_is_block (da_v (de_ix ix_seq rs_ix (de_var (pv 0 rfl (.inl rfl))) de_int (fun _ _ => rfl)) (da_v (de_var (pv 1 rfl (.inl rfl))) da_nil)) (alen_v (alen_v alen_nil)))))))) ds_nil)
    (ds_cons (ds_if (dt_cmp (op_eqA hu) rs_eq (de_var (pv 2 rfl (.inl rfl))) (de_str (by decide)) (nomark _)) (ds_one (ds_ret (de_and (de_cmp (op_eqA hu) rs_eq (de_var (pv 3 rfl (.inl rfl))) de_int (nomark _)) (de_and (de_call G.law_is_name hr (by rfl) T.m_law_is_name T.f_law_is_name.kp T.b_law_is_name (da_v (de_ix ix_seq rs_ix (de_var (pv 0 rfl (.inl rfl))) de_int (fun _ _ => rfl)) da_nil) (alen_v alen_nil)) (de_one (de_call G.law_is_block hr (by rfl) T.m_law_is_block T.f_law_is_block.kp T.b_law_is_block (da_v (de_ix ix_seq rs_ix (de_var (pv 0 rfl (.inl rfl))) de_int (fun _ _ => rfl)) (da_v (de_var (pv 1 rfl (.inl rfl))) da_nil)) (alen_v (alen_v alen_nil)))))))) ds_nil)
    (ds_cons (ds_if (PW.pt (dw_or (dt_cmp op_notInA rs_notIn (de_var (pv 2 rfl (.inl rfl))) (de_tup (da_v (de_str (by decide)) (da_v (de_str (by decide)) da_nil))) (by rfl)) (dw_or1 (dt_cmp (op_neA hu) rs_ne (de_var (pv 3 rfl (.inl rfl))) de_int (nomark _))))) (ds_one (ds_ret de_bl)) ds_nil)
    (ds_one (ds_ret (de_and (de_call G.law_is_name hr (by rfl) T.m_law_is_name T.f_law_is_name.kp T.b_law_is_name (da_v (de_ix ix_seq rs_ix (de_var (pv 0 rfl (.inl rfl))) de_int (fun _ _ => rfl)) da_nil) (alen_v alen_nil)) (de_and (de_call G.law_is_name hr (by rfl) T.m_law_is_name T.f_law_is_name.kp T.b_law_is_name (da_v (de_ix ix_seq rs_ix (de_var (pv 0 rfl (.inl rfl))) de_int (fun _ _ => rfl)) da_nil) (alen_v alen_nil)) (de_one (de_call G.law_is_block hr (by rfl) T.m_law_is_block T.f_law_is_block.kp T.b_law_is_block (da_v (de_ix ix_seq rs_ix (de_var (pv 0 rfl (.inl rfl))) de_int (fun _ _ => rfl)) (da_v (de_var (pv 1 rfl (.inl rfl))) da_nil)) (alen_v (alen_v alen_nil))))))))))))))))))))
theorem sc_law_is_block : FnScope [("_law_thing" : Str), ("_law_left" : Str), ("_law_one" : Str)] [("_law_thing" : Str), ("_law_left" : Str)] (defScope s_law_is_block) := ⟨rfl, rfl, rfl, by decide +kernel, rfl, by decide +kernel, by decide +kernel⟩
theorem ok_law_is_block (T : Tp w K mg fds) (G : AllOk P w K mg base fds k F) : FnOk P w K mg base CX0 (k + 1) (He.ga K ("_law_is_block" : Str)) (fds 37) [("_law_thing" : Str), ("_law_left" : Str)] (spF K 2 [] (step F).law_is_block) := by
  refine fn_ok T.f_law_is_block sc_law_is_block rfl fun cdv A outer s H E hr => ?_
  have hu := hr.units
  have nd := (sc_law_is_block).nd
  exact (ds_cons (ds_if (PW.pt (dw_or (dt_cmp (op_eqA hu) rs_eq (de_var (pv 1 rfl (.inr (.inl rfl)))) de_int (nomark _)) (dw_or1 (dt_not (dt_val (de_isi kb_tup (by rfl) T.z_isinstance (de_var (pv 0 rfl (.inl rfl))) (pe_bltn (v := .ty "tuple") (by rfl) T.z_tuple boot_tuple rfl))))))) (ds_one (ds_ret de_bl)) ds_nil)
    (ds_one (ds_ret (de_callB (cr_all rfl) cs_all (by rfl) T.z_all boot_all (da_v (ld_val (ll_lc (own := [(("_law_one" : Str), 2)]) (tok_n (by decide)) (tin_n (by decide)) rfl nd (di_tup (de_var (pv 0 rfl (.inl rfl)))) (blkOk_by (show blkC [("_law_thing" : Str), ("_law_left" : Str), ("_law_one" : Str)] (defScope s_law_is_block) _ _ = true by decide +kernel)) (fun _ _ _ _ _ => (dg_name (pg_name (i := 2) nd rfl (Or.inl rfl)))) (fun _ _ _ _ _ => dts_nil) (fun _ _ _ _ _ => (de_call G.law_is_statement hr (by rfl) T.m_law_is_statement T.f_law_is_statement.kp T.b_law_is_statement (da_v (de_var (pv 2 rfl (.inl rfl))) (da_v (de_bin op_sub rs_sub (de_var (pv 1 rfl (.inr (.inl rfl)))) de_int) da_nil)) (alen_v (alen_v alen_nil)))))) da_nil)))))
theorem sc_law : FnScope [("_law_script" : Str), ("_law_k" : Str), ("_law_hand_here" : Str), ("_law_turn" : Str), ("_law_room" : Str), ("_law_block_here" : Str), ("_law_deep" : Str), ("_law_some" : Str), ("_law_found" : Str)] [("_law_script" : Str)] (defScope s_law) := ⟨rfl, rfl, rfl, by decide +kernel, rfl, by decide +kernel, by decide +kernel⟩
theorem ok_law (T : Tp w K mg fds) (G : AllOk P w K mg base fds k F) : FnOk P w K mg base CX0 (k + 1) (He.ga K ("law" : Str)) (fds 38) [("_law_script" : Str)] (spF K 1 [] (step F).law) := by
  refine fn_ok T.f_law sc_law rfl fun cdv A outer s H E hr => ?_
  have hu := hr.units
  have nd := (sc_law).nd
  exact (ds_cons (ds_for (tok_n (by decide)) PassesOwn.never rfl (di_rng1 (by rfl) T.z_range (da_v (de_callB (call_max2 rfl) cs_max (by rfl) T.z_max boot_max (da_v de_int (da_v (de_callB (call_min2 rfl) cs_min (by rfl) T.z_min boot_min (da_v de_int (da_v (de_callB call_len cs_len (by rfl) T.z_len boot_len (da_v (de_var (pv 0 rfl (.inl rfl))) da_nil)) da_nil))) da_nil))) da_nil)) (dg_name (pg_name (i := 1) nd rfl (.inl rfl))) (ds_cons (ds_own (by decide) (ll_call G.law_hand hr (by rfl) T.m_law_hand T.f_law_hand.kp T.b_law_hand (da_v (de_var (pv 0 rfl (.inl rfl))) (da_v (de_var (pv 1 rfl (.inl rfl))) da_nil)) (alen_v (alen_v alen_nil))) (fun h => ps_set (i := 2) nd rfl (Or.inl rfl) h))
    (ds_one (ds_for (tok_n (by decide)) PassesOwn.never rfl (di_rng1 (by rfl) T.z_range (da_v de_int da_nil)) (dg_name (pg_name (i := 3) nd rfl (.inl rfl))) (ds_cons (ds_own (by decide) (ll_lst (da_v (de_bin op_addD rs_add de_int (de_call G.law_take hr (by rfl) T.m_law_take T.f_law_take.kp T.b_law_take (da_s (pv 2 rfl (.inl rfl)) (da_v de_int da_nil)) (alen_s (alen_v alen_nil)))) da_nil)) (fun h => ps_set (i := 4) nd rfl (Or.inl rfl) h))
    (ds_cons (ds_set (by decide) (fun h => ps_set (i := 5) nd rfl (Or.inl rfl) h) (de_call G.law_block hr (by rfl) T.m_law_block T.f_law_block.kp T.b_law_block (da_s (pv 2 rfl (.inl rfl)) (da_v (de_call G.law_of hr (by rfl) T.m_law_of T.f_law_of.kp T.b_law_of (da_s (pv 2 rfl (.inl rfl)) (da_v (de_lst (da_v de_int (da_v de_int (da_v de_int (da_v de_int da_nil))))) da_nil)) (alen_s (alen_v alen_nil))) (da_s (pv 4 rfl (.inl rfl)) da_nil))) (alen_s (alen_v (alen_s alen_nil)))))
    (ds_cons (ds_for (tok_n (by decide)) PassesOwn.never rfl (di_rng1 (by rfl) T.z_range (da_v (de_call G.law_of hr (by rfl) T.m_law_of T.f_law_of.kp T.b_law_of (da_s (pv 2 rfl (.inl rfl)) (da_v (de_lst (da_v de_int (da_v de_int (da_v de_int (da_v de_int (da_v de_int da_nil)))))) da_nil)) (alen_s (alen_v alen_nil))) da_nil)) (dg_name (pg_name (i := 6) nd rfl (.inl rfl))) (ds_cons (ds_set (by decide) (fun h => ps_set (i := 7) nd rfl (Or.inl rfl) h) (de_lst (da_v (de_tup (da_v (de_str (by decide)) (da_v (de_tup (da_v (de_str (by decide)) (da_v de_int da_nil))) (da_v (de_var (pv 5 rfl (.inl rfl))) da_nil)))) (da_v (de_tup (da_v (de_str (by decide)) (da_v (de_str (by decide)) (da_v (de_str (by decide)) (da_v (de_var (pv 5 rfl (.inl rfl))) da_nil))))) (da_v (de_tup (da_v (de_str (by decide)) (da_v (de_str (by decide)) (da_v (de_var (pv 5 rfl (.inl rfl))) da_nil)))) da_nil)))))
    (ds_one (ds_set (by decide) (fun h => ps_set (i := 5) nd rfl (Or.inl rfl) h) (de_tup (da_v (de_call G.law_of hr (by rfl) T.m_law_of T.f_law_of.kp T.b_law_of (da_s (pv 2 rfl (.inl rfl)) (da_v (de_var (pv 7 rfl (.inl rfl))) da_nil)) (alen_s (alen_v alen_nil))) da_nil))))))
    (ds_cons (ds_if (dt_cmp op_gt (rs_rel _) (de_call G.law_take hr (by rfl) T.m_law_take T.f_law_take.kp T.b_law_take (da_s (pv 2 rfl (.inl rfl)) (da_v de_int da_nil)) (alen_s (alen_v alen_nil))) de_int (nomark _)) (ds_one (ds_set (by decide) (fun h => ps_set (i := 5) nd rfl (Or.inl rfl) h) (de_call G.law_spoilt hr (by rfl) T.m_law_spoilt T.f_law_spoilt.kp T.b_law_spoilt (da_s (pv 2 rfl (.inl rfl)) (da_v (de_var (pv 5 rfl (.inl rfl))) da_nil)) (alen_s (alen_v alen_nil))))) ds_nil)
    (ds_cons (ds_set (by decide) (fun h => ps_set (i := 8) nd rfl (Or.inl rfl) h) (de_call G.is_program hr (by rfl) T.m_is_program T.f_is_program.kp T.b_is_program (da_v (de_tup (da_v (de_tup (da_v (de_str (by decide)) (da_v de_bl (da_v (de_tup da_nil) (da_v (de_str (by decide)) (da_v (de_var (pv 5 rfl (.inl rfl))) da_nil)))))) da_nil)) da_nil) (alen_v alen_nil)))
    (ds_one (ds_if (PW.pt (dw_or (dt_not (dt_val (de_isi kb_bool (by rfl) T.z_isinstance (de_var (pv 8 rfl (.inl rfl))) (pe_bltn (v := .ty "bool") (by rfl) T.z_bool boot_bool rfl)))) (dw_or1 (dt_cmp (op_neA hu) rs_ne (de_var (pv 8 rfl (.inl rfl))) (de_call G.law_is_block hr (by rfl) T.m_law_is_block T.f_law_is_block.kp T.b_law_is_block (da_v (de_var (pv 5 rfl (.inl rfl))) (da_v de_int da_nil)) (alen_v (alen_v alen_nil))) (nomark _))))) (ds_one (ds_ret de_bl)) ds_nil)))))))))))
    (ds_one (ds_ret de_bl)))
theorem all_ok (T : Tp w K mg fds) : ∀ n, AllOk P w K mg base fds n (fs n)
  | 0 => ⟨notyet, notyet, notyet, notyet, notyet, notyet, notyet, notyet, notyet, notyet, notyet, notyet, notyet, notyet, notyet, notyet, notyet, notyet, notyetL, notyet, notyet, notyet, notyet, notyet, notyet, notyet, notyet, notyet, notyet, notyet, notyet, notyet, notyet, notyet, notyet, notyet, notyet, notyet, notyet⟩
  | n + 1 => by
    have G := all_ok T n
    exact ⟨ok_is_name T G, ok_is_whole T G, ok_is_num T G, ok_is_sign T G, ok_is_row_of T G, ok_is_mode T G, ok_first_word T G, ok_is_kind_within T G, ok_is_kind T G, ok_is_argument T G, ok_are_arguments T G, ok_is_part T G, ok_is_expression T G, ok_is_statement T G, ok_is_block T G, ok_is_param T G, ok_is_body T G, ok_is_program T G, ok_law_hand T G, ok_law_take T G, ok_law_of T G, ok_law_keywords T G, ok_law_name T G, ok_law_kind T G, ok_law_num T G, ok_law_arguments T G, ok_law_expression T G, ok_law_statement T G, ok_law_block T G, ok_law_odd T G, ok_law_spoilt T G, ok_law_is_name T G, ok_law_is_num T G, ok_law_is_kind T G, ok_law_is_argument T G, ok_law_is_expression T G, ok_law_is_statement T G, ok_law_is_block T G, ok_law T G⟩
end
def d_is_name : He.DefD := ⟨(("is_name" : Str), none), ("is_name" : Str), ("is_name" : Str), defArgs s_is_name, defBody s_is_name, defScope s_is_name, [], []⟩
def d_is_whole : He.DefD := ⟨(("is_whole" : Str), none), ("is_whole" : Str), ("is_whole" : Str), defArgs s_is_whole, defBody s_is_whole, defScope s_is_whole, [], []⟩
def d_is_num : He.DefD := ⟨(("is_num" : Str), none), ("is_num" : Str), ("is_num" : Str), defArgs s_is_num, defBody s_is_num, defScope s_is_num, [], []⟩
def d_is_sign : He.DefD := ⟨(("is_sign" : Str), none), ("is_sign" : Str), ("is_sign" : Str), defArgs s_is_sign, defBody s_is_sign, defScope s_is_sign, [], []⟩
def d_is_row_of : He.DefD := ⟨(("is_row_of" : Str), none), ("is_row_of" : Str), ("is_row_of" : Str), defArgs s_is_row_of, defBody s_is_row_of, defScope s_is_row_of, [], []⟩
def d_is_mode : He.DefD := ⟨(("is_mode" : Str), none), ("is_mode" : Str), ("is_mode" : Str), defArgs s_is_mode, defBody s_is_mode, defScope s_is_mode, [], []⟩
def d_first_word : He.DefD := ⟨(("first_word" : Str), none), ("first_word" : Str), ("first_word" : Str), defArgs s_first_word, defBody s_first_word, defScope s_first_word, [], []⟩
def d_is_kind_within : He.DefD := ⟨(("is_kind_within" : Str), none), ("is_kind_within" : Str), ("is_kind_within" : Str), defArgs s_is_kind_within, defBody s_is_kind_within, defScope s_is_kind_within, [], []⟩
def d_is_kind : He.DefD := ⟨(("is_kind" : Str), none), ("is_kind" : Str), ("is_kind" : Str), defArgs s_is_kind, defBody s_is_kind, defScope s_is_kind, [], []⟩
def d_is_argument : He.DefD := ⟨(("is_argument" : Str), none), ("is_argument" : Str), ("is_argument" : Str), defArgs s_is_argument, defBody s_is_argument, defScope s_is_argument, [], []⟩
def d_are_arguments : He.DefD := ⟨(("are_arguments" : Str), none), ("are_arguments" : Str), ("are_arguments" : Str), defArgs s_are_arguments, defBody s_are_arguments, defScope s_are_arguments, [], []⟩
def d_is_part : He.DefD := ⟨(("is_part" : Str), none), ("is_part" : Str), ("is_part" : Str), defArgs s_is_part, defBody s_is_part, defScope s_is_part, [], []⟩
def d_is_expression : He.DefD := ⟨(("is_expression" : Str), none), ("is_expression" : Str), ("is_expression" : Str), defArgs s_is_expression, defBody s_is_expression, defScope s_is_expression, [], []⟩
def d_is_statement : He.DefD := ⟨(("is_statement" : Str), none), ("is_statement" : Str), ("is_statement" : Str), defArgs s_is_statement, defBody s_is_statement, defScope s_is_statement, [], []⟩
def d_is_block : He.DefD := ⟨(("is_block" : Str), none), ("is_block" : Str), ("is_block" : Str), defArgs s_is_block, defBody s_is_block, defScope s_is_block, [], []⟩
def d_is_param : He.DefD := ⟨(("is_param" : Str), none), ("is_param" : Str), ("is_param" : Str), defArgs s_is_param, defBody s_is_param, defScope s_is_param, [], []⟩
def d_is_body : He.DefD := ⟨(("is_body" : Str), none), ("is_body" : Str), ("is_body" : Str), defArgs s_is_body, defBody s_is_body, defScope s_is_body, [], []⟩
def d_is_program : He.DefD := ⟨(("is_program" : Str), none), ("is_program" : Str), ("is_program" : Str), defArgs s_is_program, defBody s_is_program, defScope s_is_program, [], []⟩
def d_law_hand : He.DefD := ⟨(("_law_hand" : Str), none), ("_law_hand" : Str), ("_law_hand" : Str), defArgs s_law_hand, defBody s_law_hand, defScope s_law_hand, [], []⟩
def d_law_take : He.DefD := ⟨(("_law_take" : Str), none), ("_law_take" : Str), ("_law_take" : Str), defArgs s_law_take, defBody s_law_take, defScope s_law_take, [], []⟩
def d_law_of : He.DefD := ⟨(("_law_of" : Str), none), ("_law_of" : Str), ("_law_of" : Str), defArgs s_law_of, defBody s_law_of, defScope s_law_of, [], []⟩
def d_law_keywords : He.DefD := ⟨(("_law_keywords" : Str), none), ("_law_keywords" : Str), ("_law_keywords" : Str), defArgs s_law_keywords, defBody s_law_keywords, defScope s_law_keywords, [], []⟩
def d_law_name : He.DefD := ⟨(("_law_name" : Str), none), ("_law_name" : Str), ("_law_name" : Str), defArgs s_law_name, defBody s_law_name, defScope s_law_name, [], []⟩
def d_law_kind : He.DefD := ⟨(("_law_kind" : Str), none), ("_law_kind" : Str), ("_law_kind" : Str), defArgs s_law_kind, defBody s_law_kind, defScope s_law_kind, [], []⟩
def d_law_num : He.DefD := ⟨(("_law_num" : Str), none), ("_law_num" : Str), ("_law_num" : Str), defArgs s_law_num, defBody s_law_num, defScope s_law_num, [], []⟩
def d_law_arguments : He.DefD := ⟨(("_law_arguments" : Str), none), ("_law_arguments" : Str), ("_law_arguments" : Str), defArgs s_law_arguments, defBody s_law_arguments, defScope s_law_arguments, [], []⟩
def d_law_expression : He.DefD := ⟨(("_law_expression" : Str), none), ("_law_expression" : Str), ("_law_expression" : Str), defArgs s_law_expression, defBody s_law_expression, defScope s_law_expression, [], []⟩
def d_law_statement : He.DefD := ⟨(("_law_statement" : Str), none), ("_law_statement" : Str), ("_law_statement" : Str), defArgs s_law_statement, defBody s_law_statement, defScope s_law_statement, [], []⟩
def d_law_block : He.DefD := ⟨(("_law_block" : Str), none), ("_law_block" : Str), ("_law_block" : Str), defArgs s_law_block, defBody s_law_block, defScope s_law_block, [], []⟩
def d_law_odd : He.DefD := ⟨(("_law_odd" : Str), none), ("_law_odd" : Str), ("_law_odd" : Str), defArgs s_law_odd, defBody s_law_odd, defScope s_law_odd, [], []⟩
def d_law_spoilt : He.DefD := ⟨(("_law_spoilt" : Str), none), ("_law_spoilt" : Str), ("_law_spoilt" : Str), defArgs s_law_spoilt, defBody s_law_spoilt, defScope s_law_spoilt, [], []⟩
def d_law_is_name : He.DefD := ⟨(("_law_is_name" : Str), none), ("_law_is_name" : Str), ("_law_is_name" : Str), defArgs s_law_is_name, defBody s_law_is_name, defScope s_law_is_name, [], []⟩
def d_law_is_num : He.DefD := ⟨(("_law_is_num" : Str), none), ("_law_is_num" : Str), ("_law_is_num" : Str), defArgs s_law_is_num, defBody s_law_is_num, defScope s_law_is_num, [], []⟩
def d_law_is_kind : He.DefD := ⟨(("_law_is_kind" : Str), none), ("_law_is_kind" : Str), ("_law_is_kind" : Str), defArgs s_law_is_kind, defBody s_law_is_kind, defScope s_law_is_kind, [], []⟩
def d_law_is_argument : He.DefD := ⟨(("_law_is_argument" : Str), none), ("_law_is_argument" : Str), ("_law_is_argument" : Str), defArgs s_law_is_argument, defBody s_law_is_argument, defScope s_law_is_argument, [], []⟩
def d_law_is_expression : He.DefD := ⟨(("_law_is_expression" : Str), none), ("_law_is_expression" : Str), ("_law_is_expression" : Str), defArgs s_law_is_expression, defBody s_law_is_expression, defScope s_law_is_expression, [], []⟩
def d_law_is_statement : He.DefD := ⟨(("_law_is_statement" : Str), none), ("_law_is_statement" : Str), ("_law_is_statement" : Str), defArgs s_law_is_statement, defBody s_law_is_statement, defScope s_law_is_statement, [], []⟩
def d_law_is_block : He.DefD := ⟨(("_law_is_block" : Str), none), ("_law_is_block" : Str), ("_law_is_block" : Str), defArgs s_law_is_block, defBody s_law_is_block, defScope s_law_is_block, [], []⟩
def d_law : He.DefD := ⟨(("law" : Str), none), ("law" : Str), ("law" : Str), defArgs s_law, defBody s_law, defScope s_law, [], []⟩
def fn : List He.DefD := [d_is_name, d_is_whole, d_is_num, d_is_sign, d_is_row_of, d_is_mode, d_first_word, d_is_kind_within, d_is_kind, d_is_argument, d_are_arguments, d_is_part, d_is_expression, d_is_statement, d_is_block, d_is_param, d_is_body, d_is_program, d_law_hand, d_law_take, d_law_of, d_law_keywords, d_law_name, d_law_kind, d_law_num, d_law_arguments, d_law_expression, d_law_statement, d_law_block, d_law_odd, d_law_spoilt, d_law_is_name, d_law_is_num, d_law_is_kind, d_law_is_argument, d_law_is_expression, d_law_is_statement, d_law_is_block, d_law]
def fa : List He.Fa := [.glo ("is_name" : Str), .glo ("is_whole" : Str), .glo ("is_num" : Str), .glo ("is_sign" : Str), .glo ("is_row_of" : Str), .glo ("is_mode" : Str), .glo ("first_word" : Str), .glo ("is_kind_within" : Str), .glo ("is_kind" : Str), .glo ("is_argument" : Str), .glo ("are_arguments" : Str), .glo ("is_part" : Str), .glo ("is_expression" : Str), .glo ("is_statement" : Str), .glo ("is_block" : Str), .glo ("is_param" : Str), .glo ("is_body" : Str), .glo ("is_program" : Str), .glo ("_law_hand" : Str), .glo ("_law_take" : Str), .glo ("_law_of" : Str), .glo ("_law_keywords" : Str), .glo ("_law_name" : Str), .glo ("_law_kind" : Str), .glo ("_law_num" : Str), .glo ("_law_arguments" : Str), .glo ("_law_expression" : Str), .glo ("_law_statement" : Str), .glo ("_law_block" : Str), .glo ("_law_odd" : Str), .glo ("_law_spoilt" : Str), .glo ("_law_is_name" : Str), .glo ("_law_is_num" : Str), .glo ("_law_is_kind" : Str), .glo ("_law_is_argument" : Str), .glo ("_law_is_expression" : Str), .glo ("_law_is_statement" : Str), .glo ("_law_is_block" : Str), .glo ("law" : Str), .glo ("WITHIN" : Str), .glo ("EXPRESSIONS" : Str), .glo ("STATEMENTS" : Str), .free ("abs" : Str), .free ("all" : Str), .free ("bool" : Str), .free ("int" : Str), .free ("isinstance" : Str), .free ("len" : Str), .free ("list" : Str), .free ("max" : Str), .free ("min" : Str), .free ("range" : Str), .free ("str" : Str), .free ("tuple" : Str), .free ("zip" : Str)]
def ts : List He.Tab := [(fun K => He.ga K ("WITHIN" : Str), [("box" : Str), ("pair" : Str)]), (fun K => He.ga K ("EXPRESSIONS" : Str), [("num" : Str), ("name" : Str), ("op" : Str), ("box" : Str), ("unbox" : Str), ("see" : Str), ("pair" : Str), ("call" : Str), ("loose" : Str), ("peek" : Str)]), (fun K => He.ga K ("STATEMENTS" : Str), [("let" : Str), ("split" : Str), ("set" : Str), ("put" : Str), ("say" : Str), ("do" : Str), ("drop" : Str), ("give" : Str), ("fail" : Str), ("poke" : Str), ("free" : Str), ("if" : Str), ("while" : Str), ("look" : Str), ("alter" : Str), ("fence" : Str)])]
def ex (K : PySem.W.Frag) : Bool := [noLst K, gloB K ("LETTERS" : Str) (.str ("abcdefghijklmnopqrstuvwxyz" : Str)), gloB K ("MOST_LETTERS" : Str) (.int 6), gloB K ("MOST_NUM" : Str) (.int 1000000000), gloB K ("SIGNS" : Str) (.tuple [.str ("+" : Str), .str ("-" : Str), .str ("*" : Str), .str ("/" : Str), .str ("<" : Str), .str ("=" : Str)]), gloB K ("KEYWORDS" : Str) (.tuple [.str ("body" : Str), .str ("of" : Str), .str ("T" : Str), .str ("take" : Str), .str ("look" : Str), .str ("alter" : Str), .str ("gives" : Str), .str ("end" : Str), .str ("let" : Str), .str ("split" : Str), .str ("set" : Str), .str ("put" : Str), .str ("say" : Str), .str ("do" : Str), .str ("drop" : Str), .str ("give" : Str), .str ("fail" : Str), .str ("poke" : Str), .str ("free" : Str), .str ("if" : Str), .str ("else" : Str), .str ("while" : Str), .str ("as" : Str), .str ("fence" : Str), .str ("num" : Str), .str ("box" : Str), .str ("pair" : Str), .str ("unbox" : Str), .str ("see" : Str), .str ("loose" : Str), .str ("peek" : Str), .str ("call" : Str)]), gloB K ("MOST_KIND" : Str) (.int 6), gloB K ("MOST_EXPRESSION" : Str) (.int 5), gloB K ("MOST_BLOCK" : Str) (.int 5), gloB K ("MOST_PARAMS" : Str) (.int 4), gloB K ("MOST_ARGUMENTS" : Str) (.int 4), gloB K ("NUM" : Str) (.str ("num" : Str)), gloB K ("LETTER" : Str) (.str ("T" : Str)), gloB K ("MODES" : Str) (.tuple [.str ("take" : Str), .str ("look" : Str), .str ("alter" : Str)]), tblB K ("WITHIN" : Str) t_WITHIN, tblB K ("EXPRESSIONS" : Str) t_EXPRESSIONS, tblB K ("STATEMENTS" : Str) t_STATEMENTS].all id
set_option maxHeartbeats 4000000 in
theorem tp_of {w : World} {h : Heap} {K : PySem.W.Frag} {mg : Str → Option Value} (X : K.In h) (G : h.Ns mainGlobals mg) (c : He.SaysX fa fn ts [] ex w h K) : ∃ fds, Tp w K mg fds := by
  obtain ⟨fd0, F0⟩ := c.t.d.def_ 0 (d := d_is_name) rfl
  obtain ⟨fd1, F1⟩ := c.t.d.def_ 1 (d := d_is_whole) rfl
  obtain ⟨fd2, F2⟩ := c.t.d.def_ 2 (d := d_is_num) rfl
  obtain ⟨fd3, F3⟩ := c.t.d.def_ 3 (d := d_is_sign) rfl
  obtain ⟨fd4, F4⟩ := c.t.d.def_ 4 (d := d_is_row_of) rfl
  obtain ⟨fd5, F5⟩ := c.t.d.def_ 5 (d := d_is_mode) rfl
  obtain ⟨fd6, F6⟩ := c.t.d.def_ 6 (d := d_first_word) rfl
  obtain ⟨fd7, F7⟩ := c.t.d.def_ 7 (d := d_is_kind_within) rfl
  obtain ⟨fd8, F8⟩ := c.t.d.def_ 8 (d := d_is_kind) rfl
  obtain ⟨fd9, F9⟩ := c.t.d.def_ 9 (d := d_is_argument) rfl
  obtain ⟨fd10, F10⟩ := c.t.d.def_ 10 (d := d_are_arguments) rfl
  obtain ⟨fd11, F11⟩ := c.t.d.def_ 11 (d := d_is_part) rfl
  obtain ⟨fd12, F12⟩ := c.t.d.def_ 12 (d := d_is_expression) rfl
  obtain ⟨fd13, F13⟩ := c.t.d.def_ 13 (d := d_is_statement) rfl
  obtain ⟨fd14, F14⟩ := c.t.d.def_ 14 (d := d_is_block) rfl
  obtain ⟨fd15, F15⟩ := c.t.d.def_ 15 (d := d_is_param) rfl
  obtain ⟨fd16, F16⟩ := c.t.d.def_ 16 (d := d_is_body) rfl
  obtain ⟨fd17, F17⟩ := c.t.d.def_ 17 (d := d_is_program) rfl
  obtain ⟨fd18, F18⟩ := c.t.d.def_ 18 (d := d_law_hand) rfl
  obtain ⟨fd19, F19⟩ := c.t.d.def_ 19 (d := d_law_take) rfl
  obtain ⟨fd20, F20⟩ := c.t.d.def_ 20 (d := d_law_of) rfl
  obtain ⟨fd21, F21⟩ := c.t.d.def_ 21 (d := d_law_keywords) rfl
  obtain ⟨fd22, F22⟩ := c.t.d.def_ 22 (d := d_law_name) rfl
  obtain ⟨fd23, F23⟩ := c.t.d.def_ 23 (d := d_law_kind) rfl
  obtain ⟨fd24, F24⟩ := c.t.d.def_ 24 (d := d_law_num) rfl
  obtain ⟨fd25, F25⟩ := c.t.d.def_ 25 (d := d_law_arguments) rfl
  obtain ⟨fd26, F26⟩ := c.t.d.def_ 26 (d := d_law_expression) rfl
  obtain ⟨fd27, F27⟩ := c.t.d.def_ 27 (d := d_law_statement) rfl
  obtain ⟨fd28, F28⟩ := c.t.d.def_ 28 (d := d_law_block) rfl
  obtain ⟨fd29, F29⟩ := c.t.d.def_ 29 (d := d_law_odd) rfl
  obtain ⟨fd30, F30⟩ := c.t.d.def_ 30 (d := d_law_spoilt) rfl
  obtain ⟨fd31, F31⟩ := c.t.d.def_ 31 (d := d_law_is_name) rfl
  obtain ⟨fd32, F32⟩ := c.t.d.def_ 32 (d := d_law_is_num) rfl
  obtain ⟨fd33, F33⟩ := c.t.d.def_ 33 (d := d_law_is_kind) rfl
  obtain ⟨fd34, F34⟩ := c.t.d.def_ 34 (d := d_law_is_argument) rfl
  obtain ⟨fd35, F35⟩ := c.t.d.def_ 35 (d := d_law_is_expression) rfl
  obtain ⟨fd36, F36⟩ := c.t.d.def_ 36 (d := d_law_is_statement) rfl
  obtain ⟨fd37, F37⟩ := c.t.d.def_ 37 (d := d_law_is_block) rfl
  obtain ⟨fd38, F38⟩ := c.t.d.def_ 38 (d := d_law) rfl
  have hx := List.all_eq_true.mp c.more
  refine ⟨fun i => match i with | 0 => fd0 | 1 => fd1 | 2 => fd2 | 3 => fd3 | 4 => fd4 | 5 => fd5 | 6 => fd6 | 7 => fd7 | 8 => fd8 | 9 => fd9 | 10 => fd10 | 11 => fd11 | 12 => fd12 | 13 => fd13 | 14 => fd14 | 15 => fd15 | 16 => fd16 | 17 => fd17 | 18 => fd18 | 19 => fd19 | 20 => fd20 | 21 => fd21 | 22 => fd22 | 23 => fd23 | 24 => fd24 | 25 => fd25 | 26 => fd26 | 27 => fd27 | 28 => fd28 | 29 => fd29 | 30 => fd30 | 31 => fd31 | 32 => fd32 | 33 => fd33 | 34 => fd34 | 35 => fd35 | 36 => fd36 | 37 => fd37 | 38 => fd38 | _ => fd0, ?_⟩
  exact ⟨F0,
    F0.bindsN fun _ _ _ _ _ _ us hl => match us, hl with | [_], _ => rfl,
    He.glo_ok X G (c.t.d.fact 0 (f := .glo ("is_name" : Str)) rfl),
    F1,
    F1.bindsN fun _ _ _ _ _ _ us hl => match us, hl with | [_], _ => rfl,
    He.glo_ok X G (c.t.d.fact 1 (f := .glo ("is_whole" : Str)) rfl),
    F2,
    F2.bindsN fun _ _ _ _ _ _ us hl => match us, hl with | [_], _ => rfl,
    He.glo_ok X G (c.t.d.fact 2 (f := .glo ("is_num" : Str)) rfl),
    F3,
    F3.bindsN fun _ _ _ _ _ _ us hl => match us, hl with | [_], _ => rfl,
    He.glo_ok X G (c.t.d.fact 3 (f := .glo ("is_sign" : Str)) rfl),
    F4,
    F4.bindsN fun _ _ _ _ _ _ us hl => match us, hl with | [_, _], _ => rfl,
    He.glo_ok X G (c.t.d.fact 4 (f := .glo ("is_row_of" : Str)) rfl),
    F5,
    F5.bindsN fun _ _ _ _ _ _ us hl => match us, hl with | [_], _ => rfl,
    He.glo_ok X G (c.t.d.fact 5 (f := .glo ("is_mode" : Str)) rfl),
    F6,
    F6.bindsN fun _ _ _ _ _ _ us hl => match us, hl with | [_], _ => rfl,
    He.glo_ok X G (c.t.d.fact 6 (f := .glo ("first_word" : Str)) rfl),
    F7,
    F7.bindsN fun _ _ _ _ _ _ us hl => match us, hl with | [_, _], _ => rfl,
    He.glo_ok X G (c.t.d.fact 7 (f := .glo ("is_kind_within" : Str)) rfl),
    F8,
    F8.bindsN fun _ _ _ _ _ _ us hl => match us, hl with | [_], _ => rfl,
    He.glo_ok X G (c.t.d.fact 8 (f := .glo ("is_kind" : Str)) rfl),
    F9,
    F9.bindsN fun _ _ _ _ _ _ us hl => match us, hl with | [_, _], _ => rfl,
    He.glo_ok X G (c.t.d.fact 9 (f := .glo ("is_argument" : Str)) rfl),
    F10,
    F10.bindsN fun _ _ _ _ _ _ us hl => match us, hl with | [_, _], _ => rfl,
    He.glo_ok X G (c.t.d.fact 10 (f := .glo ("are_arguments" : Str)) rfl),
    F11,
    F11.bindsN fun _ _ _ _ _ _ us hl => match us, hl with | [_, _, _], _ => rfl,
    He.glo_ok X G (c.t.d.fact 11 (f := .glo ("is_part" : Str)) rfl),
    F12,
    F12.bindsN fun _ _ _ _ _ _ us hl => match us, hl with | [_, _], _ => rfl,
    He.glo_ok X G (c.t.d.fact 12 (f := .glo ("is_expression" : Str)) rfl),
    F13,
    F13.bindsN fun _ _ _ _ _ _ us hl => match us, hl with | [_, _], _ => rfl,
    He.glo_ok X G (c.t.d.fact 13 (f := .glo ("is_statement" : Str)) rfl),
    F14,
    F14.bindsN fun _ _ _ _ _ _ us hl => match us, hl with | [_, _], _ => rfl,
    He.glo_ok X G (c.t.d.fact 14 (f := .glo ("is_block" : Str)) rfl),
    F15,
    F15.bindsN fun _ _ _ _ _ _ us hl => match us, hl with | [_], _ => rfl,
    He.glo_ok X G (c.t.d.fact 15 (f := .glo ("is_param" : Str)) rfl),
    F16,
    F16.bindsN fun _ _ _ _ _ _ us hl => match us, hl with | [_], _ => rfl,
    He.glo_ok X G (c.t.d.fact 16 (f := .glo ("is_body" : Str)) rfl),
    F17,
    F17.bindsN fun _ _ _ _ _ _ us hl => match us, hl with | [_], _ => rfl,
    He.glo_ok X G (c.t.d.fact 17 (f := .glo ("is_program" : Str)) rfl),
    F18,
    F18.bindsN fun _ _ _ _ _ _ us hl => match us, hl with | [_, _], _ => rfl,
    He.glo_ok X G (c.t.d.fact 18 (f := .glo ("_law_hand" : Str)) rfl),
    F19,
    F19.bindsN fun _ _ _ _ _ _ us hl => match us, hl with | [_, _], _ => rfl,
    He.glo_ok X G (c.t.d.fact 19 (f := .glo ("_law_take" : Str)) rfl),
    F20,
    F20.bindsN fun _ _ _ _ _ _ us hl => match us, hl with | [_, _], _ => rfl,
    He.glo_ok X G (c.t.d.fact 20 (f := .glo ("_law_of" : Str)) rfl),
    F21,
    F21.bindsN fun _ _ _ _ _ _ us hl => match us, hl with | [], _ => rfl,
    He.glo_ok X G (c.t.d.fact 21 (f := .glo ("_law_keywords" : Str)) rfl),
    F22,
    F22.bindsN fun _ _ _ _ _ _ us hl => match us, hl with | [_], _ => rfl,
    He.glo_ok X G (c.t.d.fact 22 (f := .glo ("_law_name" : Str)) rfl),
    F23,
    F23.bindsN fun _ _ _ _ _ _ us hl => match us, hl with | [_, _], _ => rfl,
    He.glo_ok X G (c.t.d.fact 23 (f := .glo ("_law_kind" : Str)) rfl),
    F24,
    F24.bindsN fun _ _ _ _ _ _ us hl => match us, hl with | [_], _ => rfl,
    He.glo_ok X G (c.t.d.fact 24 (f := .glo ("_law_num" : Str)) rfl),
    F25,
    F25.bindsN fun _ _ _ _ _ _ us hl => match us, hl with | [_, _, _], _ => rfl,
    He.glo_ok X G (c.t.d.fact 25 (f := .glo ("_law_arguments" : Str)) rfl),
    F26,
    F26.bindsN fun _ _ _ _ _ _ us hl => match us, hl with | [_, _, _], _ => rfl,
    He.glo_ok X G (c.t.d.fact 26 (f := .glo ("_law_expression" : Str)) rfl),
    F27,
    F27.bindsN fun _ _ _ _ _ _ us hl => match us, hl with | [_, _, _], _ => rfl,
    He.glo_ok X G (c.t.d.fact 27 (f := .glo ("_law_statement" : Str)) rfl),
    F28,
    F28.bindsN fun _ _ _ _ _ _ us hl => match us, hl with | [_, _, _], _ => rfl,
    He.glo_ok X G (c.t.d.fact 28 (f := .glo ("_law_block" : Str)) rfl),
    F29,
    F29.bindsN fun _ _ _ _ _ _ us hl => match us, hl with | [_, _], _ => rfl,
    He.glo_ok X G (c.t.d.fact 29 (f := .glo ("_law_odd" : Str)) rfl),
    F30,
    F30.bindsN fun _ _ _ _ _ _ us hl => match us, hl with | [_, _], _ => rfl,
    He.glo_ok X G (c.t.d.fact 30 (f := .glo ("_law_spoilt" : Str)) rfl),
    F31,
    F31.bindsN fun _ _ _ _ _ _ us hl => match us, hl with | [_], _ => rfl,
    He.glo_ok X G (c.t.d.fact 31 (f := .glo ("_law_is_name" : Str)) rfl),
    F32,
    F32.bindsN fun _ _ _ _ _ _ us hl => match us, hl with | [_], _ => rfl,
    He.glo_ok X G (c.t.d.fact 32 (f := .glo ("_law_is_num" : Str)) rfl),
    F33,
    F33.bindsN fun _ _ _ _ _ _ us hl => match us, hl with | [_, _], _ => rfl,
    He.glo_ok X G (c.t.d.fact 33 (f := .glo ("_law_is_kind" : Str)) rfl),
    F34,
    F34.bindsN fun _ _ _ _ _ _ us hl => match us, hl with | [_, _], _ => rfl,
    He.glo_ok X G (c.t.d.fact 34 (f := .glo ("_law_is_argument" : Str)) rfl),
    F35,
    F35.bindsN fun _ _ _ _ _ _ us hl => match us, hl with | [_, _], _ => rfl,
    He.glo_ok X G (c.t.d.fact 35 (f := .glo ("_law_is_expression" : Str)) rfl),
    F36,
    F36.bindsN fun _ _ _ _ _ _ us hl => match us, hl with | [_, _], _ => rfl,
    He.glo_ok X G (c.t.d.fact 36 (f := .glo ("_law_is_statement" : Str)) rfl),
    F37,
    F37.bindsN fun _ _ _ _ _ _ us hl => match us, hl with | [_, _], _ => rfl,
    He.glo_ok X G (c.t.d.fact 37 (f := .glo ("_law_is_block" : Str)) rfl),
    F38,
    F38.bindsN fun _ _ _ _ _ _ us hl => match us, hl with | [_], _ => rfl,
    He.glo_ok X G (c.t.d.fact 38 (f := .glo ("law" : Str)) rfl),
    He.free_ok X G (c.t.d.fact 42 (f := .free ("abs" : Str)) rfl),
    He.free_ok X G (c.t.d.fact 43 (f := .free ("all" : Str)) rfl),
    He.free_ok X G (c.t.d.fact 44 (f := .free ("bool" : Str)) rfl),
    He.free_ok X G (c.t.d.fact 45 (f := .free ("int" : Str)) rfl),
    He.free_ok X G (c.t.d.fact 46 (f := .free ("isinstance" : Str)) rfl),
    He.free_ok X G (c.t.d.fact 47 (f := .free ("len" : Str)) rfl),
    He.free_ok X G (c.t.d.fact 48 (f := .free ("list" : Str)) rfl),
    He.free_ok X G (c.t.d.fact 49 (f := .free ("max" : Str)) rfl),
    He.free_ok X G (c.t.d.fact 50 (f := .free ("min" : Str)) rfl),
    He.free_ok X G (c.t.d.fact 51 (f := .free ("range" : Str)) rfl),
    He.free_ok X G (c.t.d.fact 52 (f := .free ("str" : Str)) rfl),
    He.free_ok X G (c.t.d.fact 53 (f := .free ("tuple" : Str)) rfl),
    He.free_ok X G (c.t.d.fact 54 (f := .free ("zip" : Str)) rfl),
    gloB_ok X G (hx _ (List.mem_of_getElem? (i := 1) rfl)),
    gloB_ok X G (hx _ (List.mem_of_getElem? (i := 2) rfl)),
    gloB_ok X G (hx _ (List.mem_of_getElem? (i := 3) rfl)),
    gloB_ok X G (hx _ (List.mem_of_getElem? (i := 4) rfl)),
    gloB_ok X G (hx _ (List.mem_of_getElem? (i := 5) rfl)),
    gloB_ok X G (hx _ (List.mem_of_getElem? (i := 6) rfl)),
    gloB_ok X G (hx _ (List.mem_of_getElem? (i := 7) rfl)),
    gloB_ok X G (hx _ (List.mem_of_getElem? (i := 8) rfl)),
    gloB_ok X G (hx _ (List.mem_of_getElem? (i := 9) rfl)),
    gloB_ok X G (hx _ (List.mem_of_getElem? (i := 10) rfl)),
    gloB_ok X G (hx _ (List.mem_of_getElem? (i := 11) rfl)),
    gloB_ok X G (hx _ (List.mem_of_getElem? (i := 12) rfl)),
    gloB_ok X G (hx _ (List.mem_of_getElem? (i := 13) rfl)),
    tblB_ok (c.t.tab 0 rfl) (hx _ (List.mem_of_getElem? (i := 14) rfl)),
    He.glo_ok X G (c.t.d.fact 39 (f := .glo ("WITHIN" : Str)) rfl),
    tblB_ok (c.t.tab 1 rfl) (hx _ (List.mem_of_getElem? (i := 15) rfl)),
    He.glo_ok X G (c.t.d.fact 40 (f := .glo ("EXPRESSIONS" : Str)) rfl),
    tblB_ok (c.t.tab 2 rfl) (hx _ (List.mem_of_getElem? (i := 16) rfl)),
    He.glo_ok X G (c.t.d.fact 41 (f := .glo ("STATEMENTS" : Str)) rfl)⟩
abbrev Rw : PySem.W.OpenRow := PySem.W.OpenLaw.row PySem.Challenge.rw_ownedtongue_k03_statements_of_anything
abbrev hk : PySem.W.Hook := He.hookX 4 fa fn ts [] ex
def ob (s : PySem.W.SharedT) : He.AlX := He.obsX 4 fa fn ts [] ex (HandSHeadRun.getT s)
theorem ob_eq (s : PySem.W.SharedT) : ob s = hk.obs s.abs := He.obsX_eq (HandSHeadRun.getT_eq s)
def loose : List PySem.Str := [("is_name" : Str), ("is_whole" : Str), ("is_num" : Str), ("is_sign" : Str), ("is_row_of" : Str), ("is_mode" : Str), ("first_word" : Str), ("is_kind_within" : Str), ("is_kind" : Str), ("is_argument" : Str), ("are_arguments" : Str), ("is_part" : Str), ("is_expression" : Str), ("is_statement" : Str), ("is_block" : Str), ("is_param" : Str), ("is_body" : Str), ("is_program" : Str), ("_law_hand" : Str), ("_law_take" : Str), ("_law_of" : Str), ("_law_keywords" : Str), ("_law_name" : Str), ("_law_kind" : Str), ("_law_num" : Str), ("_law_arguments" : Str), ("_law_expression" : Str), ("_law_statement" : Str), ("_law_block" : Str), ("_law_odd" : Str), ("_law_spoilt" : Str), ("_law_is_name" : Str), ("_law_is_num" : Str), ("_law_is_kind" : Str), ("_law_is_argument" : Str), ("_law_is_expression" : Str), ("_law_is_statement" : Str), ("_law_is_block" : Str), ("LETTERS" : Str), ("MOST_LETTERS" : Str), ("MOST_NUM" : Str), ("SIGNS" : Str), ("KEYWORDS" : Str), ("MOST_KIND" : Str), ("MOST_EXPRESSION" : Str), ("MOST_BLOCK" : Str), ("MOST_PARAMS" : Str), ("MOST_ARGUMENTS" : Str), ("NUM" : Str), ("LETTER" : Str), ("MODES" : Str), ("WITHIN" : Str), ("EXPRESSIONS" : Str), ("STATEMENTS" : Str)]
theorem run_false (w : World) : HandSHeadRun.RunEq Rw (PySem.W.view Rw.prog [57]) hk ob 4000 loose (w.withFollow "special-get-raises" false) := by
  intro os
  kernel_rfl
theorem run_true (w : World) : HandSHeadRun.RunEq Rw (PySem.W.view Rw.prog [57]) hk ob 4000 loose (w.withFollow "special-get-raises" true) := by
  intro os
  kernel_rfl
theorem run (w : World) : HandSHeadRun.RunEq Rw (PySem.W.view Rw.prog [57]) hk ob 4000 loose w := PySem.W.byRow2 "special-get-raises" (P := fun w => HandSHeadRun.RunEq Rw (PySem.W.view Rw.prog [57]) hk ob 4000 loose w) run_false run_true w
theorem noLst_ok {w : World} {h : Heap} {K : PySem.W.Frag} (c : He.SaysX fa fn ts [] ex w h K) : noLst K = true := List.all_eq_true.mp c.more _ (List.mem_of_getElem? (i := 0) rfl)
theorem take_ok {n k : Nat} {m : M} {many : Int} (h : Hd (k + 1) m) (hm : 0 < many) (hb : many.natAbs.log2 < 9000) : ∃ d m', (fs (n + 1)).law_take [B.o m, B.v (.int many)] = some (.int d, [B.o m']) ∧ 0 ≤ d ∧ d < many ∧ Hd k m' := by
  show ∃ d m', bodyFn [0] 4 (b_law_take (fs n)) [B.o m, B.v (.int many)] = some (.int d, [B.o m']) ∧ 0 ≤ d ∧ d < many ∧ Hd k m'
  obtain ⟨g, hh, c, rfl, h1, h2, h3, h4, h5⟩ := h
  by_cases hg : 0 < g
  · refine ⟨g % many, .lst [.int (g / many), .int hh, .int c], ?_, Int.emod_nonneg _ (by omega), Int.emod_lt_of_pos _ hm, g / many, hh, c, rfl, Int.ediv_nonneg h1 (by omega), h2, h3, h4, by omega⟩
    simp [szLe, bodyFn, bodyFnL, qSeq, fLst1, fCallL, sOwn, sPar2, sPar3, sSeq, sIf, sRet, sRetN, sNil, sAsg, sApp, sExpr, f1, f2, f1s, f2l, f2r, fV, fC, sSetI, getO, ownL, oIx, atI_0, atI_1, atI_2, ixN, oRel, asB, asI, pNo, fSl, fSls, oSl, oMod, oDiv, oAdd, oSub, oMul, oPow, τN, setE, outs, aNil, aV, aS, fB, fDisp, fCall, resAll, resG, onlyV, slotsG, argB, putB, fIf, fOr, fAnd, fOrV, fAndV, truD, oIs, isTup, isStr, isBool, isInt, isList, oEq, oNe, eqB, scB, oIn, oNotIn, inB, flatP, eqF, oInT, oIxT, itT, itL, itS, vL, cutP_1, cutP_0, cutP_lo, cutP_hi, oLen, oList, oTup, oAbs_i, oInt_b, oInt_i, lg7, lg7919, lg104729, lg60, oMax, oMin, beqS, b_law_take, hm, hg, hb]
  · have hg0 : ¬ (g > 0) := hg
    obtain ⟨j, hj, ej⟩ := modBit ((c + 1) % 8) 8 (by omega) (by omega)
    obtain ⟨p, hp, ep⟩ : ∃ p : Int, (2 ^ 30 ≤ p ∧ p < 2 ^ 31) ∧ atI [PyData.int 2147483647, .int 2147483629, .int 2147483587, .int 2147483579, .int 2147483563, .int 2147483549, .int 2147483543, .int 2147483497] ((c + 1) % 8) = some (.int p) := by
      rw [ej]
      match j, hj with
      | 0, _ => exact ⟨2147483647, by decide, atI_nat (i := 0) rfl⟩
      | 1, _ => exact ⟨2147483629, by decide, atI_nat (i := 1) rfl⟩
      | 2, _ => exact ⟨2147483587, by decide, atI_nat (i := 2) rfl⟩
      | 3, _ => exact ⟨2147483579, by decide, atI_nat (i := 3) rfl⟩
      | 4, _ => exact ⟨2147483563, by decide, atI_nat (i := 4) rfl⟩
      | 5, _ => exact ⟨2147483549, by decide, atI_nat (i := 5) rfl⟩
      | 6, _ => exact ⟨2147483543, by decide, atI_nat (i := 6) rfl⟩
      | 7, _ => exact ⟨2147483497, by decide, atI_nat (i := 7) rfl⟩
    obtain ⟨hp1, hp2⟩ := hp
    have p0 : 0 < p := by omega
    have a1 : 12 + (c + 1).natAbs.log2 < 1000000 := by
      have := log2_lt (i := c + 1) (k := 100) (by decide) (by omega)
      omega
    have a2 : (hh + 7919 * (c + 1)).natAbs < 18446744073709551616 := by omega
    generalize ed : (hh + 7919 * (c + 1)) ^ 5 % p = dr
    have d0 : 0 ≤ dr := by rw [← ed]; exact Int.emod_nonneg _ (by omega)
    have d1 : dr < p := by rw [← ed]; exact Int.emod_lt_of_pos _ p0
    have a3 : dr.natAbs.log2 + (dr % 1009 + (c + 1)).natAbs.log2 < 1000000 := by
      have := log2_lt (i := dr) (k := 100) (by decide) (by omega)
      have := log2_lt (i := dr % 1009 + (c + 1)) (k := 100) (by decide) (by omega)
      omega
    refine ⟨dr * (dr % 1009 + (c + 1)) % p / 7 % many, .lst [.int g, .int hh, .int (c + 1)], ?_, Int.emod_nonneg _ (by omega), Int.emod_lt_of_pos _ hm, g, hh, c + 1, rfl, h1, h2, h3, by omega, by omega⟩
    simp [szLe, bodyFn, bodyFnL, qSeq, fLst1, fCallL, sOwn, sPar2, sPar3, sSeq, sIf, sRet, sRetN, sNil, sAsg, sApp, sExpr, f1, f2, f1s, f2l, f2r, fV, fC, sSetI, getO, ownL, oIx, atI_0, atI_1, atI_2, ixN, oRel, asB, asI, pNo, fSl, fSls, oSl, oMod, oDiv, oAdd, oSub, oMul, oPow, τN, setE, outs, aNil, aV, aS, fB, fDisp, fCall, resAll, resG, onlyV, slotsG, argB, putB, fIf, fOr, fAnd, fOrV, fAndV, truD, oIs, isTup, isStr, isBool, isInt, isList, oEq, oNe, eqB, scB, oIn, oNotIn, inB, flatP, eqF, oInT, oIxT, itT, itL, itS, vL, cutP_1, cutP_0, cutP_lo, cutP_hi, oLen, oList, oTup, oAbs_i, oInt_b, oInt_i, lg7, lg7919, lg104729, lg60, oMax, oMin, beqS, b_law_take, hm, hg, ep, p0, a1, a2, a3, ed]
theorem of_ok {n k : Nat} {m : M} {xs : List PyData} (h : Hd (k + 1) m) (h0 : 0 < xs.length) (hb : xs.length < 2 ^ 30) : ∃ d ∈ xs, ∃ m', (fs (n + 2)).law_of [B.o m, B.v (.list xs)] = some (d, [B.o m']) ∧ Hd k m' := by
  show ∃ d ∈ xs, ∃ m', bodyFn [0] 0 (b_law_of (fs (n + 1))) [B.o m, B.v (.list xs)] = some (d, [B.o m']) ∧ Hd k m'
  obtain ⟨i, m', e, h1, h2, h3⟩ := take_ok (n := n) (k := k) (m := m) (many := xs.length) h (by omega) (Nat.lt_of_lt_of_le (log2_lt (k := 31) (by decide) (by omega)) (by decide))
  obtain ⟨x, hx, e2, _⟩ := atI_in h1 h2
  refine ⟨x, hx, m', ?_, h3⟩
  simp [szLe, bodyFn, bodyFnL, qSeq, fLst1, fCallL, sOwn, sPar2, sPar3, sSeq, sIf, sRet, sRetN, sNil, sAsg, sApp, sExpr, f1, f2, f1s, f2l, f2r, fV, fC, sSetI, getO, ownL, oIx, atI_0, atI_1, atI_2, ixN, oRel, asB, asI, pNo, fSl, fSls, oSl, oMod, oDiv, oAdd, oSub, oMul, oPow, τN, setE, outs, aNil, aV, aS, fB, fDisp, fCall, resAll, resG, onlyV, slotsG, argB, putB, fIf, fOr, fAnd, fOrV, fAndV, truD, oIs, isTup, isStr, isBool, isInt, isList, oEq, oNe, eqB, scB, oIn, oNotIn, inB, flatP, eqF, oInT, oIxT, itT, itL, itS, vL, cutP_1, cutP_0, cutP_lo, cutP_hi, oLen, oList, oTup, oAbs_i, oInt_b, oInt_i, lg7, lg7919, lg104729, lg60, oMax, oMin, beqS, b_law_of, e, e2]
theorem of_okI {n k : Nat} {m : M} {xs : List PyData} (h : Hd (k + 1) m) (h0 : 0 < xs.length) (hb : xs.length < 2 ^ 30) : ∃ (i : Nat) (d : PyData), xs[i]? = some d ∧ ∃ m', (fs (n + 2)).law_of [B.o m, B.v (.list xs)] = some (d, [B.o m']) ∧ Hd k m' := by
  obtain ⟨d, hd, m', e, h'⟩ := of_ok (n := n) h h0 hb
  obtain ⟨i, hi, e2⟩ := List.mem_iff_getElem.mp hd
  exact ⟨i, d, by rw [List.getElem?_eq_getElem hi, e2], m', e, h'⟩
theorem hand_ok {n : Nat} {ns : List Int} {i : Int} (h0 : 0 ≤ i) (h1 : i < 1000) : ∃ m, (fs (n + 1)).law_hand [B.v (.list (ns.map .int)), B.v (.int i)] = some (m, []) ∧ Hd (2 ^ 40) (.lst m) := by
  show ∃ m, bodyFnL [] 2 (b_law_hand (fs n)) [B.v (.list (ns.map .int)), B.v (.int i)] = some (m, []) ∧ Hd (2 ^ 40) (.lst m)
  have key : ∀ c : Int, ∃ g h a : Int, 0 ≤ g ∧ 0 ≤ h ∧ h < 2 ^ 62 ∧ 0 ≤ a ∧ a = absI c ∧ (a % 1000000000000000000000000000000000000000000000000000000000000000000000000000000000000000000000000000000000000000000000000).natAbs.log2 + (b2i (decide (1000000000000000000 ≤ a))).natAbs.log2 < 1000000 ∧
      g = a % 1000000000000000000000000000000000000000000000000000000000000000000000000000000000000000000000000000000000000000000000000 * b2i (decide (1000000000000000000 ≤ a)) ∧ h = c % 2305843009213693951 + 104729 * i + 7 := fun c => by
    refine ⟨_, _, absI c, ?_, ?_, ?_, absI_nn c, rfl, ?_, rfl, rfl⟩
    · exact Int.mul_nonneg (Int.emod_nonneg _ (by decide)) (b2i_nn _)
    · omega
    · omega
    · have := absI_nn c
      have := b2i_nn (decide (1000000000000000000 ≤ absI c))
      have := b2i_le (decide (1000000000000000000 ≤ absI c))
      have := log2_lt (i := absI c % 1000000000000000000000000000000000000000000000000000000000000000000000000000000000000000000000000000000000000000000000000) (k := 400) (by decide) (by omega)
      have := log2_lt (i := b2i (decide (1000000000000000000 ≤ absI c))) (k := 400) (by decide) (by omega)
      omega
  have li : 16 + i.natAbs.log2 < 1000000 := by
    have := log2_lt (i := i) (k := 400) (by decide) (by omega)
    omega
  have fin : ∀ c : Int, (∀ g h a, 0 ≤ g → 0 ≤ h → h < 2 ^ 62 → 0 ≤ a → a = absI c → (a % 1000000000000000000000000000000000000000000000000000000000000000000000000000000000000000000000000000000000000000000000000).natAbs.log2 + (b2i (decide (1000000000000000000 ≤ a))).natAbs.log2 < 1000000 →
      g = a % 1000000000000000000000000000000000000000000000000000000000000000000000000000000000000000000000000000000000000000000000000 * b2i (decide (1000000000000000000 ≤ a)) → h = c % 2305843009213693951 + 104729 * i + 7 →
      bodyFnL [] 2 (b_law_hand (fs n)) [B.v (.list (ns.map .int)), B.v (.int i)] = some ([.int g, .int h, .int 0], [])) → ∃ m, bodyFnL [] 2 (b_law_hand (fs n)) [B.v (.list (ns.map .int)), B.v (.int i)] = some (m, []) ∧ Hd (2 ^ 40) (.lst m) := fun c H => by
    obtain ⟨g, h, a, g0, q0, q1, a0, ea, la, eg, eh⟩ := key c
    exact ⟨_, H g h a g0 q0 q1 a0 ea la eg eh, g, h, 0, rfl, g0, q0, q1, by decide, by decide⟩
  by_cases hl : i < (ns.map PyData.int).length
  · obtain ⟨c, hc⟩ : ∃ c : Int, atI (ns.map PyData.int) i = some (.int c) := by
      obtain ⟨x, hx, e, _⟩ := atI_in h0 hl
      obtain ⟨c, _, rfl⟩ := List.mem_map.mp hx
      exact ⟨c, e⟩
    refine fin c fun g h a g0 q0 q1 a0 ea la eg eh => ?_
    simp at hl
    simp [szLe, bodyFn, bodyFnL, qSeq, fLst1, fCallL, sOwn, sPar2, sPar3, sSeq, sIf, sRet, sRetN, sNil, sAsg, sApp, sExpr, f1, f2, f1s, f2l, f2r, fV, fC, sSetI, getO, ownL, oIx, atI_0, atI_1, atI_2, ixN, oRel, asB, asI, pNo, fSl, fSls, oSl, oMod, oDiv, oAdd, oSub, oMul, oPow, τN, setE, outs, aNil, aV, aS, fB, fDisp, fCall, resAll, resG, onlyV, slotsG, argB, putB, fIf, fOr, fAnd, fOrV, fAndV, truD, oIs, isTup, isStr, isBool, isInt, isList, oEq, oNe, eqB, scB, oIn, oNotIn, inB, flatP, eqF, oInT, oIxT, itT, itL, itS, vL, cutP_1, cutP_0, cutP_lo, cutP_hi, oLen, oList, oTup, oAbs_i, oInt_b, oInt_i, lg7, lg7919, lg104729, lg60, oMax, oMin, beqS, b_law_hand, hc, hl, eg, eh, ← ea, la, li]
  · refine fin 0 fun g h a g0 q0 q1 a0 ea la eg eh => ?_
    have e0 : a = 0 := ea
    subst e0
    simp at hl
    have hl' : ¬ i < (ns.length : Int) := by omega
    have lb : (b2i false).natAbs.log2 = 0 := by decide
    simp [szLe, bodyFn, bodyFnL, qSeq, fLst1, fCallL, sOwn, sPar2, sPar3, sSeq, sIf, sRet, sRetN, sNil, sAsg, sApp, sExpr, f1, f2, f1s, f2l, f2r, fV, fC, sSetI, getO, ownL, oIx, atI_0, atI_1, atI_2, ixN, oRel, asB, asI, pNo, fSl, fSls, oSl, oMod, oDiv, oAdd, oSub, oMul, oPow, τN, setE, outs, aNil, aV, aS, fB, fDisp, fCall, resAll, resG, onlyV, slotsG, argB, putB, fIf, fOr, fAnd, fOrV, fAndV, truD, oIs, isTup, isStr, isBool, isInt, isList, oEq, oNe, eqB, scB, oIn, oNotIn, inB, flatP, eqF, oInT, oIxT, itT, itL, itS, vL, cutP_1, cutP_0, cutP_lo, cutP_hi, oLen, oList, oTup, oAbs_i, oInt_b, oInt_i, lg7, lg7919, lg104729, lg60, oMax, oMin, beqS, b_law_hand, hl', eg, eh, ← ea, li, lb]

def fw : PyData → Str
  | .tuple (.str w :: _) => w
  | _ => ""
def kindB : Nat → PyData → Bool
  | 0, _ => false
  | _ + 1, .str z => decide (z = ("num" : Str)) || decide (z = ("T" : Str))
  | n + 1, .tuple (.str w :: xs) => ((decide (w = ("box" : Str)) && decide (xs.length = 1)) || (decide (w = ("pair" : Str)) && decide (xs.length = 2))) && xs.all (kindB n)
  | _ + 1, _ => false
theorem first_ok (n : Nat) (d : PyData) : (fs (n + 1)).first_word [B.v d] = some (.str (fw d), []) := by
  show bodyFn [] 0 (b_first_word (fs n)) [B.v d] = some (.str (fw d), [])
  cases d with
  | tuple xs =>
    cases xs with
    | nil => simp [szLe, bodyFn, bodyFnL, qSeq, fLst1, fCallL, sOwn, sPar2, sPar3, sSeq, sIf, sRet, sRetN, sNil, sAsg, sApp, sExpr, f1, f2, f1s, f2l, f2r, fV, fC, sSetI, getO, ownL, oIx, atI_0, atI_1, atI_2, ixN, oRel, asB, asI, pNo, fSl, fSls, oSl, oMod, oDiv, oAdd, oSub, oMul, oPow, τN, setE, outs, aNil, aV, aS, fB, fDisp, fCall, resAll, resG, onlyV, slotsG, argB, putB, fIf, fOr, fAnd, fOrV, fAndV, truD, oIs, isTup, isStr, isBool, isInt, isList, oEq, oNe, eqB, scB, oIn, oNotIn, inB, flatP, eqF, oInT, oIxT, itT, itL, itS, vL, cutP_1, cutP_0, cutP_lo, cutP_hi, oLen, oList, oTup, oAbs_i, oInt_b, oInt_i, lg7, lg7919, lg104729, lg60, oMax, oMin, beqS, b_first_word, fw]
    | cons x xs => cases x <;> simp [szLe, bodyFn, bodyFnL, qSeq, fLst1, fCallL, sOwn, sPar2, sPar3, sSeq, sIf, sRet, sRetN, sNil, sAsg, sApp, sExpr, f1, f2, f1s, f2l, f2r, fV, fC, sSetI, getO, ownL, oIx, atI_0, atI_1, atI_2, ixN, oRel, asB, asI, pNo, fSl, fSls, oSl, oMod, oDiv, oAdd, oSub, oMul, oPow, τN, setE, outs, aNil, aV, aS, fB, fDisp, fCall, resAll, resG, onlyV, slotsG, argB, putB, fIf, fOr, fAnd, fOrV, fAndV, truD, oIs, isTup, isStr, isBool, isInt, isList, oEq, oNe, eqB, scB, oIn, oNotIn, inB, flatP, eqF, oInT, oIxT, itT, itL, itS, vL, cutP_1, cutP_0, cutP_lo, cutP_hi, oLen, oList, oTup, oAbs_i, oInt_b, oInt_i, lg7, lg7919, lg104729, lg60, oMax, oMin, beqS, b_first_word, fw]
  | _ => simp [szLe, bodyFn, bodyFnL, qSeq, fLst1, fCallL, sOwn, sPar2, sPar3, sSeq, sIf, sRet, sRetN, sNil, sAsg, sApp, sExpr, f1, f2, f1s, f2l, f2r, fV, fC, sSetI, getO, ownL, oIx, atI_0, atI_1, atI_2, ixN, oRel, asB, asI, pNo, fSl, fSls, oSl, oMod, oDiv, oAdd, oSub, oMul, oPow, τN, setE, outs, aNil, aV, aS, fB, fDisp, fCall, resAll, resG, onlyV, slotsG, argB, putB, fIf, fOr, fAnd, fOrV, fAndV, truD, oIs, isTup, isStr, isBool, isInt, isList, oEq, oNe, eqB, scB, oIn, oNotIn, inB, flatP, eqF, oInT, oIxT, itT, itL, itS, vL, cutP_1, cutP_0, cutP_lo, cutP_hi, oLen, oList, oTup, oAbs_i, oInt_b, oInt_i, lg7, lg7919, lg104729, lg60, oMax, oMin, beqS, b_first_word, fw]
theorem within_ok : ∀ (k j : Nat) (d : PyData), (fs (k + 2 + j)).is_kind_within [B.v d, B.v (.int k)] = some (.bool (kindB k d), [])
  | 0, j, d => by
    rw [show 0 + 2 + j = (1 + j) + 1 by omega]
    show bodyFn [] 2 (b_is_kind_within (fs (1 + j))) [B.v d, B.v (.int 0)] = _
    simp [szLe, bodyFn, bodyFnL, qSeq, fLst1, fCallL, sOwn, sPar2, sPar3, sSeq, sIf, sRet, sRetN, sNil, sAsg, sApp, sExpr, f1, f2, f1s, f2l, f2r, fV, fC, sSetI, getO, ownL, oIx, atI_0, atI_1, atI_2, ixN, oRel, asB, asI, pNo, fSl, fSls, oSl, oMod, oDiv, oAdd, oSub, oMul, oPow, τN, setE, outs, aNil, aV, aS, fB, fDisp, fCall, resAll, resG, onlyV, slotsG, argB, putB, fIf, fOr, fAnd, fOrV, fAndV, truD, oIs, isTup, isStr, isBool, isInt, isList, oEq, oNe, eqB, scB, oIn, oNotIn, inB, flatP, eqF, oInT, oIxT, itT, itL, itS, vL, cutP_1, cutP_0, cutP_lo, cutP_hi, oLen, oList, oTup, oAbs_i, oInt_b, oInt_i, lg7, lg7919, lg104729, lg60, oMax, oMin, beqS, b_is_kind_within, kindB]
  | k + 1, j, d => by
    rw [show k + 1 + 2 + j = (k + 2 + j) + 1 by omega]
    show bodyFn [] 2 (b_is_kind_within (fs (k + 2 + j))) [B.v d, B.v (.int ((k + 1 : Nat) : Int))] = _
    have e1 : ((k + 1 : Nat) : Int) - 1 = k := by omega
    have e0 : ¬ ((k : Int) + 1 = 0) := by omega
    have F : (fs (k + 2 + j)).first_word [B.v d] = some (.str (fw d), []) := by
      rw [show k + 2 + j = (k + 1 + j) + 1 by omega]; exact first_ok _ d
    have W : ∀ x, (fs (k + 2 + j)).is_kind_within [B.v x, B.v (.int k)] = some (.bool (kindB k x), []) := fun x => within_ok k j x
    have hbp : ¬ (Str.ofString "box" = Str.ofString "pair") := by decide
    have t0 : tblLook t_WITHIN (Str.ofString "") = none := by decide
    have t1 : tblLook t_WITHIN (Str.ofString "box") = some (.int 1) := by rfl
    have t2 : tblLook t_WITHIN (Str.ofString "pair") = some (.int 2) := by rfl
    have t3 : ∀ w, w ≠ Str.ofString "box" → w ≠ Str.ofString "pair" → tblLook t_WITHIN w = none := fun w h1 h2 => by
      simp [tblLook, t_WITHIN, Ne.symm h1, Ne.symm h2]
    have L : ∀ (w : Str) (xs : List PyData), fLc [3] (f1 itT (fSl (fV 0) (f1 asI (fC (.int 1))) pNo)) (τN 3) gYes (fCall [] (fs (k + 2 + j)).is_kind_within (aV (fV 3) (aV (f2 oSub (fV 1) (fC (.int 1))) aNil))) [B.v (.tuple (.str w :: xs)), B.v (.int ((k : Int) + 1)), B.v (.str w), B.u]
        = some (xs.map fun x => .bool (kindB k x), [B.v (.tuple (.str w :: xs)), B.v (.int ((k : Int) + 1)), B.v (.str w), B.u]) := fun w xs => by
      refine fLc_pure (fun x => .bool (kindB k x)) (ds := xs) (E1 := [B.v (.tuple (.str w :: xs)), B.v (.int ((k : Int) + 1)), B.v (.str w), B.u]) (Ew := [B.v (.tuple (.str w :: xs)), B.v (.int ((k : Int) + 1)), B.v (.str w), B.u]) ?_ rfl rfl rfl fun d _ => ⟨_, [B.v (.tuple (.str w :: xs)), B.v (.int ((k : Int) + 1)), B.v (.str w), B.v d], rfl, ?_, rfl⟩
      · simp [szLe, bodyFn, bodyFnL, qSeq, fLst1, fCallL, sOwn, sPar2, sPar3, sSeq, sIf, sRet, sRetN, sNil, sAsg, sApp, sExpr, f1, f2, f1s, f2l, f2r, fV, fC, sSetI, getO, ownL, oIx, atI_0, atI_1, atI_2, ixN, oRel, asB, asI, pNo, fSl, fSls, oSl, oMod, oDiv, oAdd, oSub, oMul, oPow, τN, setE, outs, aNil, aV, aS, fB, fDisp, fCall, resAll, resG, onlyV, slotsG, argB, putB, fIf, fOr, fAnd, fOrV, fAndV, truD, oIs, isTup, isStr, isBool, isInt, isList, oEq, oNe, eqB, scB, oIn, oNotIn, inB, flatP, eqF, oInT, oIxT, itT, itL, itS, vL, cutP_1, cutP_0, cutP_lo, cutP_hi, oLen, oList, oTup, oAbs_i, oInt_b, oInt_i, lg7, lg7919, lg104729, lg60, oMax, oMin, beqS]
      · simp [szLe, bodyFn, bodyFnL, qSeq, fLst1, fCallL, sOwn, sPar2, sPar3, sSeq, sIf, sRet, sRetN, sNil, sAsg, sApp, sExpr, f1, f2, f1s, f2l, f2r, fV, fC, sSetI, getO, ownL, oIx, atI_0, atI_1, atI_2, ixN, oRel, asB, asI, pNo, fSl, fSls, oSl, oMod, oDiv, oAdd, oSub, oMul, oPow, τN, setE, outs, aNil, aV, aS, fB, fDisp, fCall, resAll, resG, onlyV, slotsG, argB, putB, fIf, fOr, fAnd, fOrV, fAndV, truD, oIs, isTup, isStr, isBool, isInt, isList, oEq, oNe, eqB, scB, oIn, oNotIn, inB, flatP, eqF, oInT, oIxT, itT, itL, itS, vL, cutP_1, cutP_0, cutP_lo, cutP_hi, oLen, oList, oTup, oAbs_i, oInt_b, oInt_i, lg7, lg7919, lg104729, lg60, oMax, oMin, beqS, W]
    cases d with
    | tuple xs =>
      cases xs with
      | nil => simp [szLe, bodyFn, bodyFnL, qSeq, fLst1, fCallL, sOwn, sPar2, sPar3, sSeq, sIf, sRet, sRetN, sNil, sAsg, sApp, sExpr, f1, f2, f1s, f2l, f2r, fV, fC, sSetI, getO, ownL, oIx, atI_0, atI_1, atI_2, ixN, oRel, asB, asI, pNo, fSl, fSls, oSl, oMod, oDiv, oAdd, oSub, oMul, oPow, τN, setE, outs, aNil, aV, aS, fB, fDisp, fCall, resAll, resG, onlyV, slotsG, argB, putB, fIf, fOr, fAnd, fOrV, fAndV, truD, oIs, isTup, isStr, isBool, isInt, isList, oEq, oNe, eqB, scB, oIn, oNotIn, inB, flatP, eqF, oInT, oIxT, itT, itL, itS, vL, cutP_1, cutP_0, cutP_lo, cutP_hi, oLen, oList, oTup, oAbs_i, oInt_b, oInt_i, lg7, lg7919, lg104729, lg60, oMax, oMin, beqS, b_is_kind_within, kindB, e0, F, fw, t0]
      | cons x xs =>
        cases x with
        | str w =>
          by_cases h1 : w = Str.ofString "box"
          · subst h1
            by_cases hx : xs.length = 1
            · simp [szLe, bodyFn, bodyFnL, qSeq, fLst1, fCallL, sOwn, sPar2, sPar3, sSeq, sIf, sRet, sRetN, sNil, sAsg, sApp, sExpr, f1, f2, f1s, f2l, f2r, fV, fC, sSetI, getO, ownL, oIx, atI_0, atI_1, atI_2, ixN, oRel, asB, asI, pNo, fSl, fSls, oSl, oMod, oDiv, oAdd, oSub, oMul, oPow, τN, setE, outs, aNil, aV, aS, fB, fDisp, fCall, resAll, resG, onlyV, slotsG, argB, putB, fIf, fOr, fAnd, fOrV, fAndV, truD, oIs, isTup, isStr, isBool, isInt, isList, oEq, oNe, eqB, scB, oIn, oNotIn, inB, flatP, eqF, oInT, oIxT, itT, itL, itS, vL, cutP_1, cutP_0, cutP_lo, cutP_hi, oLen, oList, oTup, oAbs_i, oInt_b, oInt_i, lg7, lg7919, lg104729, lg60, oMax, oMin, beqS, b_is_kind_within, kindB, e0, F, fw, t1, L, hx, oAll, allB_map]
            · have hx' : ¬ ((xs.length : Int) + 1 = 2) := by omega
              simp [szLe, bodyFn, bodyFnL, qSeq, fLst1, fCallL, sOwn, sPar2, sPar3, sSeq, sIf, sRet, sRetN, sNil, sAsg, sApp, sExpr, f1, f2, f1s, f2l, f2r, fV, fC, sSetI, getO, ownL, oIx, atI_0, atI_1, atI_2, ixN, oRel, asB, asI, pNo, fSl, fSls, oSl, oMod, oDiv, oAdd, oSub, oMul, oPow, τN, setE, outs, aNil, aV, aS, fB, fDisp, fCall, resAll, resG, onlyV, slotsG, argB, putB, fIf, fOr, fAnd, fOrV, fAndV, truD, oIs, isTup, isStr, isBool, isInt, isList, oEq, oNe, eqB, scB, oIn, oNotIn, inB, flatP, eqF, oInT, oIxT, itT, itL, itS, vL, cutP_1, cutP_0, cutP_lo, cutP_hi, oLen, oList, oTup, oAbs_i, oInt_b, oInt_i, lg7, lg7919, lg104729, lg60, oMax, oMin, beqS, b_is_kind_within, kindB, e0, F, fw, t1, L, hx, hx', hbp]
          · by_cases h2 : w = Str.ofString "pair"
            · subst h2
              by_cases hx : xs.length = 2
              · simp [szLe, bodyFn, bodyFnL, qSeq, fLst1, fCallL, sOwn, sPar2, sPar3, sSeq, sIf, sRet, sRetN, sNil, sAsg, sApp, sExpr, f1, f2, f1s, f2l, f2r, fV, fC, sSetI, getO, ownL, oIx, atI_0, atI_1, atI_2, ixN, oRel, asB, asI, pNo, fSl, fSls, oSl, oMod, oDiv, oAdd, oSub, oMul, oPow, τN, setE, outs, aNil, aV, aS, fB, fDisp, fCall, resAll, resG, onlyV, slotsG, argB, putB, fIf, fOr, fAnd, fOrV, fAndV, truD, oIs, isTup, isStr, isBool, isInt, isList, oEq, oNe, eqB, scB, oIn, oNotIn, inB, flatP, eqF, oInT, oIxT, itT, itL, itS, vL, cutP_1, cutP_0, cutP_lo, cutP_hi, oLen, oList, oTup, oAbs_i, oInt_b, oInt_i, lg7, lg7919, lg104729, lg60, oMax, oMin, beqS, b_is_kind_within, kindB, e0, F, fw, t2, L, hx, oAll, allB_map, h1]
              · have hx' : ¬ ((xs.length : Int) + 1 = 3) := by omega
                simp [szLe, bodyFn, bodyFnL, qSeq, fLst1, fCallL, sOwn, sPar2, sPar3, sSeq, sIf, sRet, sRetN, sNil, sAsg, sApp, sExpr, f1, f2, f1s, f2l, f2r, fV, fC, sSetI, getO, ownL, oIx, atI_0, atI_1, atI_2, ixN, oRel, asB, asI, pNo, fSl, fSls, oSl, oMod, oDiv, oAdd, oSub, oMul, oPow, τN, setE, outs, aNil, aV, aS, fB, fDisp, fCall, resAll, resG, onlyV, slotsG, argB, putB, fIf, fOr, fAnd, fOrV, fAndV, truD, oIs, isTup, isStr, isBool, isInt, isList, oEq, oNe, eqB, scB, oIn, oNotIn, inB, flatP, eqF, oInT, oIxT, itT, itL, itS, vL, cutP_1, cutP_0, cutP_lo, cutP_hi, oLen, oList, oTup, oAbs_i, oInt_b, oInt_i, lg7, lg7919, lg104729, lg60, oMax, oMin, beqS, b_is_kind_within, kindB, e0, F, fw, t2, L, hx, hx', h1]
            · simp [szLe, bodyFn, bodyFnL, qSeq, fLst1, fCallL, sOwn, sPar2, sPar3, sSeq, sIf, sRet, sRetN, sNil, sAsg, sApp, sExpr, f1, f2, f1s, f2l, f2r, fV, fC, sSetI, getO, ownL, oIx, atI_0, atI_1, atI_2, ixN, oRel, asB, asI, pNo, fSl, fSls, oSl, oMod, oDiv, oAdd, oSub, oMul, oPow, τN, setE, outs, aNil, aV, aS, fB, fDisp, fCall, resAll, resG, onlyV, slotsG, argB, putB, fIf, fOr, fAnd, fOrV, fAndV, truD, oIs, isTup, isStr, isBool, isInt, isList, oEq, oNe, eqB, scB, oIn, oNotIn, inB, flatP, eqF, oInT, oIxT, itT, itL, itS, vL, cutP_1, cutP_0, cutP_lo, cutP_hi, oLen, oList, oTup, oAbs_i, oInt_b, oInt_i, lg7, lg7919, lg104729, lg60, oMax, oMin, beqS, b_is_kind_within, kindB, e0, F, fw, t3 w h1 h2, h1, h2]
        | _ => simp [szLe, bodyFn, bodyFnL, qSeq, fLst1, fCallL, sOwn, sPar2, sPar3, sSeq, sIf, sRet, sRetN, sNil, sAsg, sApp, sExpr, f1, f2, f1s, f2l, f2r, fV, fC, sSetI, getO, ownL, oIx, atI_0, atI_1, atI_2, ixN, oRel, asB, asI, pNo, fSl, fSls, oSl, oMod, oDiv, oAdd, oSub, oMul, oPow, τN, setE, outs, aNil, aV, aS, fB, fDisp, fCall, resAll, resG, onlyV, slotsG, argB, putB, fIf, fOr, fAnd, fOrV, fAndV, truD, oIs, isTup, isStr, isBool, isInt, isList, oEq, oNe, eqB, scB, oIn, oNotIn, inB, flatP, eqF, oInT, oIxT, itT, itL, itS, vL, cutP_1, cutP_0, cutP_lo, cutP_hi, oLen, oList, oTup, oAbs_i, oInt_b, oInt_i, lg7, lg7919, lg104729, lg60, oMax, oMin, beqS, b_is_kind_within, kindB, e0, F, fw, t0]
    | str z => simp [szLe, bodyFn, bodyFnL, qSeq, fLst1, fCallL, sOwn, sPar2, sPar3, sSeq, sIf, sRet, sRetN, sNil, sAsg, sApp, sExpr, f1, f2, f1s, f2l, f2r, fV, fC, sSetI, getO, ownL, oIx, atI_0, atI_1, atI_2, ixN, oRel, asB, asI, pNo, fSl, fSls, oSl, oMod, oDiv, oAdd, oSub, oMul, oPow, τN, setE, outs, aNil, aV, aS, fB, fDisp, fCall, resAll, resG, onlyV, slotsG, argB, putB, fIf, fOr, fAnd, fOrV, fAndV, truD, oIs, isTup, isStr, isBool, isInt, isList, oEq, oNe, eqB, scB, oIn, oNotIn, inB, flatP, eqF, oInT, oIxT, itT, itL, itS, vL, cutP_1, cutP_0, cutP_lo, cutP_hi, oLen, oList, oTup, oAbs_i, oInt_b, oInt_i, lg7, lg7919, lg104729, lg60, oMax, oMin, beqS, b_is_kind_within, kindB, e0, F, fw, t0]
    | _ => simp [szLe, bodyFn, bodyFnL, qSeq, fLst1, fCallL, sOwn, sPar2, sPar3, sSeq, sIf, sRet, sRetN, sNil, sAsg, sApp, sExpr, f1, f2, f1s, f2l, f2r, fV, fC, sSetI, getO, ownL, oIx, atI_0, atI_1, atI_2, ixN, oRel, asB, asI, pNo, fSl, fSls, oSl, oMod, oDiv, oAdd, oSub, oMul, oPow, τN, setE, outs, aNil, aV, aS, fB, fDisp, fCall, resAll, resG, onlyV, slotsG, argB, putB, fIf, fOr, fAnd, fOrV, fAndV, truD, oIs, isTup, isStr, isBool, isInt, isList, oEq, oNe, eqB, scB, oIn, oNotIn, inB, flatP, eqF, oInT, oIxT, itT, itL, itS, vL, cutP_1, cutP_0, cutP_lo, cutP_hi, oLen, oList, oTup, oAbs_i, oInt_b, oInt_i, lg7, lg7919, lg104729, lg60, oMax, oMin, beqS, b_is_kind_within, kindB, e0, F, fw, t0]
set_option maxHeartbeats 2000000 in
theorem lkind_ok : ∀ (k j : Nat) (d : PyData), (fs (k + 2 + j)).law_is_kind [B.v d, B.v (.int k)] = some (.bool (kindB k d), [])
  | 0, j, d => by
    rw [show 0 + 2 + j = (1 + j) + 1 by omega]
    show bodyFn [] 1 (b_law_is_kind (fs (1 + j))) [B.v d, B.v (.int 0)] = _
    simp [szLe, bodyFn, bodyFnL, qSeq, fLst1, fCallL, sOwn, sPar2, sPar3, sSeq, sIf, sRet, sRetN, sNil, sAsg, sApp, sExpr, f1, f2, f1s, f2l, f2r, fV, fC, sSetI, getO, ownL, oIx, atI_0, atI_1, atI_2, ixN, oRel, asB, asI, pNo, fSl, fSls, oSl, oMod, oDiv, oAdd, oSub, oMul, oPow, τN, setE, outs, aNil, aV, aS, fB, fDisp, fCall, resAll, resG, onlyV, slotsG, argB, putB, fIf, fOr, fAnd, fOrV, fAndV, truD, oIs, isTup, isStr, isBool, isInt, isList, oEq, oNe, eqB, scB, oIn, oNotIn, inB, flatP, eqF, oInT, oIxT, itT, itL, itS, vL, cutP_1, cutP_0, cutP_lo, cutP_hi, oLen, oList, oTup, oAbs_i, oInt_b, oInt_i, lg7, lg7919, lg104729, lg60, oMax, oMin, beqS, b_law_is_kind, kindB]
  | k + 1, j, d => by
    rw [show k + 1 + 2 + j = (k + 2 + j) + 1 by omega]
    show bodyFn [] 1 (b_law_is_kind (fs (k + 2 + j))) [B.v d, B.v (.int ((k + 1 : Nat) : Int))] = _
    have e1 : ((k + 1 : Nat) : Int) - 1 = k := by omega
    have e0 : ¬ ((k : Int) + 1 = 0) := by omega
    have W : ∀ x, (fs (k + 2 + j)).law_is_kind [B.v x, B.v (.int k)] = some (.bool (kindB k x), []) := fun x => lkind_ok k j x
    have hbp : ¬ (Str.ofString "box" = Str.ofString "pair") := by decide
    have hpb : ¬ (Str.ofString "pair" = Str.ofString "box") := by decide
    have L : ∀ (w : Str) (xs : List PyData), fLc [2] (f1 itT (fSl (fV 0) (f1 asI (fC (.int 1))) pNo)) (τN 2) gYes (fCall [] (fs (k + 2 + j)).law_is_kind (aV (fV 2) (aV (f2 oSub (fV 1) (fC (.int 1))) aNil))) [B.v (.tuple (.str w :: xs)), B.v (.int ((k : Int) + 1)), B.u]
        = some (xs.map fun x => .bool (kindB k x), [B.v (.tuple (.str w :: xs)), B.v (.int ((k : Int) + 1)), B.u]) := fun w xs => by
      refine fLc_pure (fun x => .bool (kindB k x)) (ds := xs) (E1 := [B.v (.tuple (.str w :: xs)), B.v (.int ((k : Int) + 1)), B.u]) (Ew := [B.v (.tuple (.str w :: xs)), B.v (.int ((k : Int) + 1)), B.u]) ?_ rfl rfl rfl fun d _ => ⟨_, [B.v (.tuple (.str w :: xs)), B.v (.int ((k : Int) + 1)), B.v d], rfl, ?_, rfl⟩
      · simp [szLe, bodyFn, bodyFnL, qSeq, fLst1, fCallL, sOwn, sPar2, sPar3, sSeq, sIf, sRet, sRetN, sNil, sAsg, sApp, sExpr, f1, f2, f1s, f2l, f2r, fV, fC, sSetI, getO, ownL, oIx, atI_0, atI_1, atI_2, ixN, oRel, asB, asI, pNo, fSl, fSls, oSl, oMod, oDiv, oAdd, oSub, oMul, oPow, τN, setE, outs, aNil, aV, aS, fB, fDisp, fCall, resAll, resG, onlyV, slotsG, argB, putB, fIf, fOr, fAnd, fOrV, fAndV, truD, oIs, isTup, isStr, isBool, isInt, isList, oEq, oNe, eqB, scB, oIn, oNotIn, inB, flatP, eqF, oInT, oIxT, itT, itL, itS, vL, cutP_1, cutP_0, cutP_lo, cutP_hi, oLen, oList, oTup, oAbs_i, oInt_b, oInt_i, lg7, lg7919, lg104729, lg60, oMax, oMin, beqS]
      · simp [szLe, bodyFn, bodyFnL, qSeq, fLst1, fCallL, sOwn, sPar2, sPar3, sSeq, sIf, sRet, sRetN, sNil, sAsg, sApp, sExpr, f1, f2, f1s, f2l, f2r, fV, fC, sSetI, getO, ownL, oIx, atI_0, atI_1, atI_2, ixN, oRel, asB, asI, pNo, fSl, fSls, oSl, oMod, oDiv, oAdd, oSub, oMul, oPow, τN, setE, outs, aNil, aV, aS, fB, fDisp, fCall, resAll, resG, onlyV, slotsG, argB, putB, fIf, fOr, fAnd, fOrV, fAndV, truD, oIs, isTup, isStr, isBool, isInt, isList, oEq, oNe, eqB, scB, oIn, oNotIn, inB, flatP, eqF, oInT, oIxT, itT, itL, itS, vL, cutP_1, cutP_0, cutP_lo, cutP_hi, oLen, oList, oTup, oAbs_i, oInt_b, oInt_i, lg7, lg7919, lg104729, lg60, oMax, oMin, beqS, W]
    cases d with
    | tuple xs =>
      cases xs with
      | nil => simp [szLe, bodyFn, bodyFnL, qSeq, fLst1, fCallL, sOwn, sPar2, sPar3, sSeq, sIf, sRet, sRetN, sNil, sAsg, sApp, sExpr, f1, f2, f1s, f2l, f2r, fV, fC, sSetI, getO, ownL, oIx, atI_0, atI_1, atI_2, ixN, oRel, asB, asI, pNo, fSl, fSls, oSl, oMod, oDiv, oAdd, oSub, oMul, oPow, τN, setE, outs, aNil, aV, aS, fB, fDisp, fCall, resAll, resG, onlyV, slotsG, argB, putB, fIf, fOr, fAnd, fOrV, fAndV, truD, oIs, isTup, isStr, isBool, isInt, isList, oEq, oNe, eqB, scB, oIn, oNotIn, inB, flatP, eqF, oInT, oIxT, itT, itL, itS, vL, cutP_1, cutP_0, cutP_lo, cutP_hi, oLen, oList, oTup, oAbs_i, oInt_b, oInt_i, lg7, lg7919, lg104729, lg60, oMax, oMin, beqS, b_law_is_kind, kindB, e0]
      | cons x xs =>
        match xs with
        | [] => cases x <;> simp [szLe, bodyFn, bodyFnL, qSeq, fLst1, fCallL, sOwn, sPar2, sPar3, sSeq, sIf, sRet, sRetN, sNil, sAsg, sApp, sExpr, f1, f2, f1s, f2l, f2r, fV, fC, sSetI, getO, ownL, oIx, atI_0, atI_1, atI_2, ixN, oRel, asB, asI, pNo, fSl, fSls, oSl, oMod, oDiv, oAdd, oSub, oMul, oPow, τN, setE, outs, aNil, aV, aS, fB, fDisp, fCall, resAll, resG, onlyV, slotsG, argB, putB, fIf, fOr, fAnd, fOrV, fAndV, truD, oIs, isTup, isStr, isBool, isInt, isList, oEq, oNe, eqB, scB, oIn, oNotIn, inB, flatP, eqF, oInT, oIxT, itT, itL, itS, vL, cutP_1, cutP_0, cutP_lo, cutP_hi, oLen, oList, oTup, oAbs_i, oInt_b, oInt_i, lg7, lg7919, lg104729, lg60, oMax, oMin, beqS, b_law_is_kind, kindB, e0]
        | [y] =>
          cases x with
          | str w =>
            by_cases h1 : w = Str.ofString "box"
            · subst h1
              simp [szLe, bodyFn, bodyFnL, qSeq, fLst1, fCallL, sOwn, sPar2, sPar3, sSeq, sIf, sRet, sRetN, sNil, sAsg, sApp, sExpr, f1, f2, f1s, f2l, f2r, fV, fC, sSetI, getO, ownL, oIx, atI_0, atI_1, atI_2, ixN, oRel, asB, asI, pNo, fSl, fSls, oSl, oMod, oDiv, oAdd, oSub, oMul, oPow, τN, setE, outs, aNil, aV, aS, fB, fDisp, fCall, resAll, resG, onlyV, slotsG, argB, putB, fIf, fOr, fAnd, fOrV, fAndV, truD, oIs, isTup, isStr, isBool, isInt, isList, oEq, oNe, eqB, scB, oIn, oNotIn, inB, flatP, eqF, oInT, oIxT, itT, itL, itS, vL, cutP_1, cutP_0, cutP_lo, cutP_hi, oLen, oList, oTup, oAbs_i, oInt_b, oInt_i, lg7, lg7919, lg104729, lg60, oMax, oMin, beqS, b_law_is_kind, kindB, e0, L, oAll, allB_map, hbp, allB]
            · simp [szLe, bodyFn, bodyFnL, qSeq, fLst1, fCallL, sOwn, sPar2, sPar3, sSeq, sIf, sRet, sRetN, sNil, sAsg, sApp, sExpr, f1, f2, f1s, f2l, f2r, fV, fC, sSetI, getO, ownL, oIx, atI_0, atI_1, atI_2, ixN, oRel, asB, asI, pNo, fSl, fSls, oSl, oMod, oDiv, oAdd, oSub, oMul, oPow, τN, setE, outs, aNil, aV, aS, fB, fDisp, fCall, resAll, resG, onlyV, slotsG, argB, putB, fIf, fOr, fAnd, fOrV, fAndV, truD, oIs, isTup, isStr, isBool, isInt, isList, oEq, oNe, eqB, scB, oIn, oNotIn, inB, flatP, eqF, oInT, oIxT, itT, itL, itS, vL, cutP_1, cutP_0, cutP_lo, cutP_hi, oLen, oList, oTup, oAbs_i, oInt_b, oInt_i, lg7, lg7919, lg104729, lg60, oMax, oMin, beqS, b_law_is_kind, kindB, e0, h1]
          | _ => simp [szLe, bodyFn, bodyFnL, qSeq, fLst1, fCallL, sOwn, sPar2, sPar3, sSeq, sIf, sRet, sRetN, sNil, sAsg, sApp, sExpr, f1, f2, f1s, f2l, f2r, fV, fC, sSetI, getO, ownL, oIx, atI_0, atI_1, atI_2, ixN, oRel, asB, asI, pNo, fSl, fSls, oSl, oMod, oDiv, oAdd, oSub, oMul, oPow, τN, setE, outs, aNil, aV, aS, fB, fDisp, fCall, resAll, resG, onlyV, slotsG, argB, putB, fIf, fOr, fAnd, fOrV, fAndV, truD, oIs, isTup, isStr, isBool, isInt, isList, oEq, oNe, eqB, scB, oIn, oNotIn, inB, flatP, eqF, oInT, oIxT, itT, itL, itS, vL, cutP_1, cutP_0, cutP_lo, cutP_hi, oLen, oList, oTup, oAbs_i, oInt_b, oInt_i, lg7, lg7919, lg104729, lg60, oMax, oMin, beqS, b_law_is_kind, kindB, e0]
        | [y, z] =>
          cases x with
          | str w =>
            by_cases h1 : w = Str.ofString "pair"
            · subst h1
              simp [szLe, bodyFn, bodyFnL, qSeq, fLst1, fCallL, sOwn, sPar2, sPar3, sSeq, sIf, sRet, sRetN, sNil, sAsg, sApp, sExpr, f1, f2, f1s, f2l, f2r, fV, fC, sSetI, getO, ownL, oIx, atI_0, atI_1, atI_2, ixN, oRel, asB, asI, pNo, fSl, fSls, oSl, oMod, oDiv, oAdd, oSub, oMul, oPow, τN, setE, outs, aNil, aV, aS, fB, fDisp, fCall, resAll, resG, onlyV, slotsG, argB, putB, fIf, fOr, fAnd, fOrV, fAndV, truD, oIs, isTup, isStr, isBool, isInt, isList, oEq, oNe, eqB, scB, oIn, oNotIn, inB, flatP, eqF, oInT, oIxT, itT, itL, itS, vL, cutP_1, cutP_0, cutP_lo, cutP_hi, oLen, oList, oTup, oAbs_i, oInt_b, oInt_i, lg7, lg7919, lg104729, lg60, oMax, oMin, beqS, b_law_is_kind, kindB, e0, L, oAll, allB_map, hbp, hpb, allB]
            · simp [szLe, bodyFn, bodyFnL, qSeq, fLst1, fCallL, sOwn, sPar2, sPar3, sSeq, sIf, sRet, sRetN, sNil, sAsg, sApp, sExpr, f1, f2, f1s, f2l, f2r, fV, fC, sSetI, getO, ownL, oIx, atI_0, atI_1, atI_2, ixN, oRel, asB, asI, pNo, fSl, fSls, oSl, oMod, oDiv, oAdd, oSub, oMul, oPow, τN, setE, outs, aNil, aV, aS, fB, fDisp, fCall, resAll, resG, onlyV, slotsG, argB, putB, fIf, fOr, fAnd, fOrV, fAndV, truD, oIs, isTup, isStr, isBool, isInt, isList, oEq, oNe, eqB, scB, oIn, oNotIn, inB, flatP, eqF, oInT, oIxT, itT, itL, itS, vL, cutP_1, cutP_0, cutP_lo, cutP_hi, oLen, oList, oTup, oAbs_i, oInt_b, oInt_i, lg7, lg7919, lg104729, lg60, oMax, oMin, beqS, b_law_is_kind, kindB, e0, h1]
          | _ => simp [szLe, bodyFn, bodyFnL, qSeq, fLst1, fCallL, sOwn, sPar2, sPar3, sSeq, sIf, sRet, sRetN, sNil, sAsg, sApp, sExpr, f1, f2, f1s, f2l, f2r, fV, fC, sSetI, getO, ownL, oIx, atI_0, atI_1, atI_2, ixN, oRel, asB, asI, pNo, fSl, fSls, oSl, oMod, oDiv, oAdd, oSub, oMul, oPow, τN, setE, outs, aNil, aV, aS, fB, fDisp, fCall, resAll, resG, onlyV, slotsG, argB, putB, fIf, fOr, fAnd, fOrV, fAndV, truD, oIs, isTup, isStr, isBool, isInt, isList, oEq, oNe, eqB, scB, oIn, oNotIn, inB, flatP, eqF, oInT, oIxT, itT, itL, itS, vL, cutP_1, cutP_0, cutP_lo, cutP_hi, oLen, oList, oTup, oAbs_i, oInt_b, oInt_i, lg7, lg7919, lg104729, lg60, oMax, oMin, beqS, b_law_is_kind, kindB, e0]
        | y :: z :: t :: xs =>
          have e3 : ¬ (3 = (xs.length : Int) + 1 + 1 + 1 + 1) := by omega
          have e2 : ¬ (2 = (xs.length : Int) + 1 + 1 + 1 + 1) := by omega
          cases x <;> simp [szLe, bodyFn, bodyFnL, qSeq, fLst1, fCallL, sOwn, sPar2, sPar3, sSeq, sIf, sRet, sRetN, sNil, sAsg, sApp, sExpr, f1, f2, f1s, f2l, f2r, fV, fC, sSetI, getO, ownL, oIx, atI_0, atI_1, atI_2, ixN, oRel, asB, asI, pNo, fSl, fSls, oSl, oMod, oDiv, oAdd, oSub, oMul, oPow, τN, setE, outs, aNil, aV, aS, fB, fDisp, fCall, resAll, resG, onlyV, slotsG, argB, putB, fIf, fOr, fAnd, fOrV, fAndV, truD, oIs, isTup, isStr, isBool, isInt, isList, oEq, oNe, eqB, scB, oIn, oNotIn, inB, flatP, eqF, oInT, oIxT, itT, itL, itS, vL, cutP_1, cutP_0, cutP_lo, cutP_hi, oLen, oList, oTup, oAbs_i, oInt_b, oInt_i, lg7, lg7919, lg104729, lg60, oMax, oMin, beqS, b_law_is_kind, kindB, e0, e2, e3]
    | str z => by_cases hz : z = Str.ofString "num" <;> simp [szLe, bodyFn, bodyFnL, qSeq, fLst1, fCallL, sOwn, sPar2, sPar3, sSeq, sIf, sRet, sRetN, sNil, sAsg, sApp, sExpr, f1, f2, f1s, f2l, f2r, fV, fC, sSetI, getO, ownL, oIx, atI_0, atI_1, atI_2, ixN, oRel, asB, asI, pNo, fSl, fSls, oSl, oMod, oDiv, oAdd, oSub, oMul, oPow, τN, setE, outs, aNil, aV, aS, fB, fDisp, fCall, resAll, resG, onlyV, slotsG, argB, putB, fIf, fOr, fAnd, fOrV, fAndV, truD, oIs, isTup, isStr, isBool, isInt, isList, oEq, oNe, eqB, scB, oIn, oNotIn, inB, flatP, eqF, oInT, oIxT, itT, itL, itS, vL, cutP_1, cutP_0, cutP_lo, cutP_hi, oLen, oList, oTup, oAbs_i, oInt_b, oInt_i, lg7, lg7919, lg104729, lg60, oMax, oMin, beqS, b_law_is_kind, kindB, e0, hz]
    | _ => simp [szLe, bodyFn, bodyFnL, qSeq, fLst1, fCallL, sOwn, sPar2, sPar3, sSeq, sIf, sRet, sRetN, sNil, sAsg, sApp, sExpr, f1, f2, f1s, f2l, f2r, fV, fC, sSetI, getO, ownL, oIx, atI_0, atI_1, atI_2, ixN, oRel, asB, asI, pNo, fSl, fSls, oSl, oMod, oDiv, oAdd, oSub, oMul, oPow, τN, setE, outs, aNil, aV, aS, fB, fDisp, fCall, resAll, resG, onlyV, slotsG, argB, putB, fIf, fOr, fAnd, fOrV, fAndV, truD, oIs, isTup, isStr, isBool, isInt, isList, oEq, oNe, eqB, scB, oIn, oNotIn, inB, flatP, eqF, oInT, oIxT, itT, itL, itS, vL, cutP_1, cutP_0, cutP_lo, cutP_hi, oLen, oList, oTup, oAbs_i, oInt_b, oInt_i, lg7, lg7919, lg104729, lg60, oMax, oMin, beqS, b_law_is_kind, kindB, e0]
theorem is_kind_ok (j : Nat) (d : PyData) : (fs (9 + j)).is_kind [B.v d] = some (.bool (kindB 6 d), []) := by
  rw [show 9 + j = (8 + j) + 1 by omega]
  show bodyFn [] 0 (b_is_kind (fs (8 + j))) [B.v d] = _
  have W := within_ok 6 j d
  simp at W
  simp [szLe, bodyFn, bodyFnL, qSeq, fLst1, fCallL, sOwn, sPar2, sPar3, sSeq, sIf, sRet, sRetN, sNil, sAsg, sApp, sExpr, f1, f2, f1s, f2l, f2r, fV, fC, sSetI, getO, ownL, oIx, atI_0, atI_1, atI_2, ixN, oRel, asB, asI, pNo, fSl, fSls, oSl, oMod, oDiv, oAdd, oSub, oMul, oPow, τN, setE, outs, aNil, aV, aS, fB, fDisp, fCall, resAll, resG, onlyV, slotsG, argB, putB, fIf, fOr, fAnd, fOrV, fAndV, truD, oIs, isTup, isStr, isBool, isInt, isList, oEq, oNe, eqB, scB, oIn, oNotIn, inB, flatP, eqF, oInT, oIxT, itT, itL, itS, vL, cutP_1, cutP_0, cutP_lo, cutP_hi, oLen, oList, oTup, oAbs_i, oInt_b, oInt_i, lg7, lg7919, lg104729, lg60, oMax, oMin, beqS, b_is_kind, W]

def kwS : List PyData := [.str "body", .str "of", .str "T", .str "take", .str "look", .str "alter", .str "gives", .str "end", .str "let", .str "split", .str "set", .str "put", .str "say", .str "do", .str "drop", .str "give", .str "fail", .str "poke", .str "free", .str "if", .str "else", .str "while", .str "as", .str "fence", .str "num", .str "box", .str "pair", .str "unbox", .str "see", .str "loose", .str "peek", .str "call"]
def kwB (z : Str) : Bool := kwS.any fun y => eqF y (.str z)
def abc : Str := "abcdefghijklmnopqrstuvwxyz"
def abcB (z : Str) : Bool := z.cps.toList.all fun c => decide (c ∈ abc.cps.toList)
def nameB : PyData → Bool
  | .str z => decide (1 ≤ z.length) && decide (z.length ≤ 6) && !kwB z && abcB z
  | _ => false
theorem in_kwT (z : Str) : oIn (.str z) (.tuple kwS) = some (.bool (kwB z)) := by
  show Option.map PyData.bool (if (flatP (.str z) && kwS.all flatP) = true then some (kwS.any fun y => eqF y (.str z)) else none) = _
  rw [if_pos (by rfl)]
  rfl
theorem in_kwL (z : Str) : oIn (.str z) (.list kwS) = some (.bool (kwB z)) := by
  show Option.map PyData.bool (if (flatP (.str z) && kwS.all flatP) = true then some (kwS.any fun y => eqF y (.str z)) else none) = _
  rw [if_pos (by rfl)]
  rfl
theorem kw_ok (n : Nat) : (fs (n + 1)).law_keywords [] = some (.list kwS, []) := by
  show bodyFn [] 1 (b_law_keywords (fs n)) [] = _
  rfl
def sgB (d : PyData) : Bool := match d with
  | .str w => decide (w.cps.getD 0 0 ∈ abc.cps.toList)
  | _ => false
theorem sg_in {z : Str} {d : PyData} (h : d ∈ sgn z) : oIn d (.str abc) = some (.bool (sgB d)) ∧ oNotIn d (.str abc) = some (.bool (!sgB d)) := by
  obtain ⟨c, _, rfl⟩ := List.mem_map.mp h
  exact ⟨in_str c abc, notIn_str c abc⟩
theorem sg_all (z : Str) : (sgn z).all sgB = abcB z := by
  unfold sgn abcB
  rw [List.all_map]
  rfl
theorem sg_none (z : Str) : ((sgn z).filter fun d => !sgB d).isEmpty = abcB z := by
  rw [← sg_all]
  induction sgn z with
  | nil => rfl
  | cons d ds ih =>
    cases h : sgB d with
    | true => rw [List.filter_cons_of_neg (by rw [h]; decide), List.all_cons, h, ih]; rfl
    | false => rw [List.filter_cons_of_pos (by rw [h]; decide), List.all_cons, h]; rfl
theorem name_isok (n : Nat) (d : PyData) : (fs (n + 1)).is_name [B.v d] = some (.bool (nameB d), []) := by
  show bodyFn [] 1 (b_is_name (fs n)) [B.v d] = _
  cases d with
  | str z =>
    have L := fLc_pure (vs := [1]) (fl := f1 itS (fV 0)) (τ := τN 1) (fe := f2 oIn (fV 1) (fC (.str abc))) (E := [B.v (.str z), B.u]) (E1 := [B.v (.str z), B.u]) (E3 := [B.v (.str z), B.u]) (Ew := [B.v (.str z), B.u]) (fun d => .bool (sgB d)) (ds := sgn z) rfl rfl rfl rfl fun d hd => ⟨[(1, d)], [B.v (.str z), B.v d], rfl, by simp [f2, fV, fC, setE, (sg_in hd).1], rfl⟩
    have K := in_kwT z
    have L' : (fLc [1] (f1 itS (fV 0)) (τN 1) gYes (f2 oIn (fV 1) (fC (.str (Str.ofString "abcdefghijklmnopqrstuvwxyz"))))) [B.v (.str z), B.u] = _ := L
    unfold kwS at K
    by_cases h1 : 1 ≤ z.length
    · by_cases h2 : z.length ≤ 6
      · have h1' : (1 : Int) ≤ z.length := by omega
        have h2' : (z.length : Int) ≤ 6 := by omega
        cases hk : kwB z with
        | true => 
          rw [hk] at K
          exact xBody rfl (xYes (E1 := [B.v (.str z), B.u]) (by (simp [szLe, bodyFn, bodyFnL, qSeq, fLst1, fCallL, sOwn, sPar2, sPar3, sSeq, sIf, sRet, sRetN, sNil, sAsg, sApp, sExpr, f1, f2, f1s, f2l, f2r, fV, fC, sSetI, getO, ownL, oIx, atI_0, atI_1, atI_2, ixN, oRel, asB, asI, pNo, fSl, fSls, oSl, oMod, oDiv, oAdd, oSub, oMul, oPow, τN, setE, outs, aNil, aV, aS, fB, fDisp, fCall, resAll, resG, onlyV, slotsG, argB, putB, fIf, fOr, fAnd, fOrV, fAndV, truD, oIs, isTup, isStr, isBool, isInt, isList, oEq, oNe, eqB, scB, itT, itL, itS, vL, cutP_1, cutP_0, cutP_lo, cutP_hi, oLen, oList, oTup, oAbs_i, oInt_b, oInt_i, lg7, lg7919, lg104729, lg60, oMax, oMin, beqS, fChain, fIfC, fZ, itZ, oEqL, h1', h2', K] <;> first | rfl | exact ⟨rfl, rfl⟩ | omega | decide)) (by (simp [szLe, bodyFn, bodyFnL, qSeq, fLst1, fCallL, sOwn, sPar2, sPar3, sSeq, sIf, sRet, sRetN, sNil, sAsg, sApp, sExpr, f1, f2, f1s, f2l, f2r, fV, fC, sSetI, getO, ownL, oIx, atI_0, atI_1, atI_2, ixN, oRel, asB, asI, pNo, fSl, fSls, oSl, oMod, oDiv, oAdd, oSub, oMul, oPow, τN, setE, outs, aNil, aV, aS, fB, fDisp, fCall, resAll, resG, onlyV, slotsG, argB, putB, fIf, fOr, fAnd, fOrV, fAndV, truD, oIs, isTup, isStr, isBool, isInt, isList, oEq, oNe, eqB, scB, itT, itL, itS, vL, cutP_1, cutP_0, cutP_lo, cutP_hi, oLen, oList, oTup, oAbs_i, oInt_b, oInt_i, lg7, lg7919, lg104729, lg60, oMax, oMin, beqS, fChain, fIfC, fZ, itZ, oEqL, nameB, hk] <;> first | rfl | exact ⟨rfl, rfl⟩ | omega | decide))) rfl
        | false => 
          rw [hk] at K
          exact xBody rfl (xNo (E1 := [B.v (.str z), B.u]) (by (simp [szLe, bodyFn, bodyFnL, qSeq, fLst1, fCallL, sOwn, sPar2, sPar3, sSeq, sIf, sRet, sRetN, sNil, sAsg, sApp, sExpr, f1, f2, f1s, f2l, f2r, fV, fC, sSetI, getO, ownL, oIx, atI_0, atI_1, atI_2, ixN, oRel, asB, asI, pNo, fSl, fSls, oSl, oMod, oDiv, oAdd, oSub, oMul, oPow, τN, setE, outs, aNil, aV, aS, fB, fDisp, fCall, resAll, resG, onlyV, slotsG, argB, putB, fIf, fOr, fAnd, fOrV, fAndV, truD, oIs, isTup, isStr, isBool, isInt, isList, oEq, oNe, eqB, scB, itT, itL, itS, vL, cutP_1, cutP_0, cutP_lo, cutP_hi, oLen, oList, oTup, oAbs_i, oInt_b, oInt_i, lg7, lg7919, lg104729, lg60, oMax, oMin, beqS, fChain, fIfC, fZ, itZ, oEqL, h1', h2', K] <;> first | rfl | exact ⟨rfl, rfl⟩ | omega | decide)) (by (simp [szLe, bodyFn, bodyFnL, qSeq, fLst1, fCallL, sOwn, sPar2, sPar3, sSeq, sIf, sRet, sRetN, sNil, sAsg, sApp, sExpr, f1, f2, f1s, f2l, f2r, fV, fC, sSetI, getO, ownL, oIx, atI_0, atI_1, atI_2, ixN, oRel, asB, asI, pNo, fSl, fSls, oSl, oMod, oDiv, oAdd, oSub, oMul, oPow, τN, setE, outs, aNil, aV, aS, fB, fDisp, fCall, resAll, resG, onlyV, slotsG, argB, putB, fIf, fOr, fAnd, fOrV, fAndV, truD, oIs, isTup, isStr, isBool, isInt, isList, oEq, oNe, eqB, scB, itT, itL, itS, vL, cutP_1, cutP_0, cutP_lo, cutP_hi, oLen, oList, oTup, oAbs_i, oInt_b, oInt_i, lg7, lg7919, lg104729, lg60, oMax, oMin, beqS, fChain, fIfC, fZ, itZ, oEqL, L', nameB, hk, h1, h2, oAll, allB_map, sg_all] <;> first | rfl | exact ⟨rfl, rfl⟩ | omega | decide))) rfl
      · have h2' : ¬ ((z.length : Int) ≤ 6) := by omega
        have h1' : (1 : Int) ≤ z.length := by omega
        exact xBody rfl (xYes (E1 := [B.v (.str z), B.u]) (by (simp [szLe, bodyFn, bodyFnL, qSeq, fLst1, fCallL, sOwn, sPar2, sPar3, sSeq, sIf, sRet, sRetN, sNil, sAsg, sApp, sExpr, f1, f2, f1s, f2l, f2r, fV, fC, sSetI, getO, ownL, oIx, atI_0, atI_1, atI_2, ixN, oRel, asB, asI, pNo, fSl, fSls, oSl, oMod, oDiv, oAdd, oSub, oMul, oPow, τN, setE, outs, aNil, aV, aS, fB, fDisp, fCall, resAll, resG, onlyV, slotsG, argB, putB, fIf, fOr, fAnd, fOrV, fAndV, truD, oIs, isTup, isStr, isBool, isInt, isList, oEq, oNe, eqB, scB, itT, itL, itS, vL, cutP_1, cutP_0, cutP_lo, cutP_hi, oLen, oList, oTup, oAbs_i, oInt_b, oInt_i, lg7, lg7919, lg104729, lg60, oMax, oMin, beqS, fChain, fIfC, fZ, itZ, oEqL, h1', h2'] <;> first | rfl | exact ⟨rfl, rfl⟩ | omega | decide)) (by (simp [szLe, bodyFn, bodyFnL, qSeq, fLst1, fCallL, sOwn, sPar2, sPar3, sSeq, sIf, sRet, sRetN, sNil, sAsg, sApp, sExpr, f1, f2, f1s, f2l, f2r, fV, fC, sSetI, getO, ownL, oIx, atI_0, atI_1, atI_2, ixN, oRel, asB, asI, pNo, fSl, fSls, oSl, oMod, oDiv, oAdd, oSub, oMul, oPow, τN, setE, outs, aNil, aV, aS, fB, fDisp, fCall, resAll, resG, onlyV, slotsG, argB, putB, fIf, fOr, fAnd, fOrV, fAndV, truD, oIs, isTup, isStr, isBool, isInt, isList, oEq, oNe, eqB, scB, itT, itL, itS, vL, cutP_1, cutP_0, cutP_lo, cutP_hi, oLen, oList, oTup, oAbs_i, oInt_b, oInt_i, lg7, lg7919, lg104729, lg60, oMax, oMin, beqS, fChain, fIfC, fZ, itZ, oEqL, nameB, h2] <;> first | rfl | exact ⟨rfl, rfl⟩ | omega | decide))) rfl
    · have h1' : ¬ ((1 : Int) ≤ z.length) := by omega
      exact xBody rfl (xYes (E1 := [B.v (.str z), B.u]) (by (simp [szLe, bodyFn, bodyFnL, qSeq, fLst1, fCallL, sOwn, sPar2, sPar3, sSeq, sIf, sRet, sRetN, sNil, sAsg, sApp, sExpr, f1, f2, f1s, f2l, f2r, fV, fC, sSetI, getO, ownL, oIx, atI_0, atI_1, atI_2, ixN, oRel, asB, asI, pNo, fSl, fSls, oSl, oMod, oDiv, oAdd, oSub, oMul, oPow, τN, setE, outs, aNil, aV, aS, fB, fDisp, fCall, resAll, resG, onlyV, slotsG, argB, putB, fIf, fOr, fAnd, fOrV, fAndV, truD, oIs, isTup, isStr, isBool, isInt, isList, oEq, oNe, eqB, scB, itT, itL, itS, vL, cutP_1, cutP_0, cutP_lo, cutP_hi, oLen, oList, oTup, oAbs_i, oInt_b, oInt_i, lg7, lg7919, lg104729, lg60, oMax, oMin, beqS, fChain, fIfC, fZ, itZ, oEqL, h1'] <;> first | rfl | exact ⟨rfl, rfl⟩ | omega | decide)) (by (simp [szLe, bodyFn, bodyFnL, qSeq, fLst1, fCallL, sOwn, sPar2, sPar3, sSeq, sIf, sRet, sRetN, sNil, sAsg, sApp, sExpr, f1, f2, f1s, f2l, f2r, fV, fC, sSetI, getO, ownL, oIx, atI_0, atI_1, atI_2, ixN, oRel, asB, asI, pNo, fSl, fSls, oSl, oMod, oDiv, oAdd, oSub, oMul, oPow, τN, setE, outs, aNil, aV, aS, fB, fDisp, fCall, resAll, resG, onlyV, slotsG, argB, putB, fIf, fOr, fAnd, fOrV, fAndV, truD, oIs, isTup, isStr, isBool, isInt, isList, oEq, oNe, eqB, scB, itT, itL, itS, vL, cutP_1, cutP_0, cutP_lo, cutP_hi, oLen, oList, oTup, oAbs_i, oInt_b, oInt_i, lg7, lg7919, lg104729, lg60, oMax, oMin, beqS, fChain, fIfC, fZ, itZ, oEqL, nameB, h1] <;> first | rfl | exact ⟨rfl, rfl⟩ | omega | decide))) rfl
  | _ => exact xBody rfl (xYes (by (simp [szLe, bodyFn, bodyFnL, qSeq, fLst1, fCallL, sOwn, sPar2, sPar3, sSeq, sIf, sRet, sRetN, sNil, sAsg, sApp, sExpr, f1, f2, f1s, f2l, f2r, fV, fC, sSetI, getO, ownL, oIx, atI_0, atI_1, atI_2, ixN, oRel, asB, asI, pNo, fSl, fSls, oSl, oMod, oDiv, oAdd, oSub, oMul, oPow, τN, setE, outs, aNil, aV, aS, fB, fDisp, fCall, resAll, resG, onlyV, slotsG, argB, putB, fIf, fOr, fAnd, fOrV, fAndV, truD, oIs, isTup, isStr, isBool, isInt, isList, oEq, oNe, eqB, scB, oIn, oNotIn, inB, flatP, eqF, oInT, oIxT, itT, itL, itS, vL, cutP_1, cutP_0, cutP_lo, cutP_hi, oLen, oList, oTup, oAbs_i, oInt_b, oInt_i, lg7, lg7919, lg104729, lg60, oMax, oMin, beqS] <;> first | rfl | exact ⟨rfl, rfl⟩ | omega | decide)) (by (simp [szLe, bodyFn, bodyFnL, qSeq, fLst1, fCallL, sOwn, sPar2, sPar3, sSeq, sIf, sRet, sRetN, sNil, sAsg, sApp, sExpr, f1, f2, f1s, f2l, f2r, fV, fC, sSetI, getO, ownL, oIx, atI_0, atI_1, atI_2, ixN, oRel, asB, asI, pNo, fSl, fSls, oSl, oMod, oDiv, oAdd, oSub, oMul, oPow, τN, setE, outs, aNil, aV, aS, fB, fDisp, fCall, resAll, resG, onlyV, slotsG, argB, putB, fIf, fOr, fAnd, fOrV, fAndV, truD, oIs, isTup, isStr, isBool, isInt, isList, oEq, oNe, eqB, scB, oIn, oNotIn, inB, flatP, eqF, oInT, oIxT, itT, itL, itS, vL, cutP_1, cutP_0, cutP_lo, cutP_hi, oLen, oList, oTup, oAbs_i, oInt_b, oInt_i, lg7, lg7919, lg104729, lg60, oMax, oMin, beqS] <;> first | rfl | exact ⟨rfl, rfl⟩ | omega | decide))) rfl

theorem law_name_isok (n : Nat) (d : PyData) : (fs (n + 2)).law_is_name [B.v d] = some (.bool (nameB d), []) := by
  show bodyFn [] 1 (b_law_is_name (fs (n + 1))) [B.v d] = _
  have KW : (fs (n + 1)).law_keywords [] = some (.list kwS, []) := kw_ok n
  cases d with
  | str z =>
    have L := fLc_filt (vs := [1]) (fl := f1 itS (fV 0)) (τ := τN 1) (gt := f1 asB (f2 oNotIn (fV 1) (fC (.str abc)))) (fe := fV 1) (E := [B.v (.str z), B.u]) (E1 := [B.v (.str z), B.u]) (E3 := [B.v (.str z), B.u]) (Ew := [B.v (.str z), B.u]) (fun d => !sgB d) (fun d => d) (ds := sgn z) rfl rfl rfl rfl
      fun d hd => ⟨[(1, d)], [B.v (.str z), B.v d], rfl, by simp [f1, f2, fV, fC, asB, setE, (sg_in hd).2], rfl, fun _ => ⟨[B.v (.str z), B.v d], rfl, rfl⟩⟩
    have L' : (fLc [1] (f1 itS (fV 0)) (τN 1) (f1 asB (f2 oNotIn (fV 1) (fC (.str (Str.ofString "abcdefghijklmnopqrstuvwxyz"))))) (fV 1)) [B.v (.str z), B.u] = _ := L
    have K := in_kwL z
    have sn := sg_none z
    rw [List.map_id'] at L'
    generalize ((sgn z).filter fun d => !sgB d) = fl at L' sn
    by_cases h0 : z.length = 0
    · have h0' : ¬ (1 ≤ z.length) := by omega
      exact xBody rfl (xYes (E1 := [B.v (.str z), B.u]) (by (simp [szLe, bodyFn, bodyFnL, qSeq, fLst1, fCallL, sOwn, sPar2, sPar3, sSeq, sIf, sRet, sRetN, sNil, sAsg, sApp, sExpr, f1, f2, f1s, f2l, f2r, fV, fC, sSetI, getO, ownL, oIx, atI_0, atI_1, atI_2, ixN, oRel, asB, asI, pNo, fSl, fSls, oSl, oMod, oDiv, oAdd, oSub, oMul, oPow, τN, setE, outs, aNil, aV, aS, fB, fDisp, fCall, resAll, resG, onlyV, slotsG, argB, putB, fIf, fOr, fAnd, fOrV, fAndV, truD, oIs, isTup, isStr, isBool, isInt, isList, oEq, oNe, eqB, scB, itT, itL, itS, vL, cutP_1, cutP_0, cutP_lo, cutP_hi, oLen, oList, oTup, oAbs_i, oInt_b, oInt_i, lg7, lg7919, lg104729, lg60, oMax, oMin, beqS, fChain, fIfC, fZ, itZ, oEqL, h0] <;> first | rfl | exact ⟨rfl, rfl⟩ | omega | decide)) (by (simp [szLe, bodyFn, bodyFnL, qSeq, fLst1, fCallL, sOwn, sPar2, sPar3, sSeq, sIf, sRet, sRetN, sNil, sAsg, sApp, sExpr, f1, f2, f1s, f2l, f2r, fV, fC, sSetI, getO, ownL, oIx, atI_0, atI_1, atI_2, ixN, oRel, asB, asI, pNo, fSl, fSls, oSl, oMod, oDiv, oAdd, oSub, oMul, oPow, τN, setE, outs, aNil, aV, aS, fB, fDisp, fCall, resAll, resG, onlyV, slotsG, argB, putB, fIf, fOr, fAnd, fOrV, fAndV, truD, oIs, isTup, isStr, isBool, isInt, isList, oEq, oNe, eqB, scB, itT, itL, itS, vL, cutP_1, cutP_0, cutP_lo, cutP_hi, oLen, oList, oTup, oAbs_i, oInt_b, oInt_i, lg7, lg7919, lg104729, lg60, oMax, oMin, beqS, fChain, fIfC, fZ, itZ, oEqL, nameB, h0'] <;> first | rfl | exact ⟨rfl, rfl⟩ | omega | decide))) rfl
    · have h0' : 1 ≤ z.length := by omega
      by_cases h2 : z.length ≤ 6
      · have h2' : ¬ (6 < (z.length : Int)) := by omega
        cases hk : kwB z with
        | true =>
          rw [hk] at K
          exact xBody rfl (xYes (E1 := [B.v (.str z), B.u]) (by (simp [szLe, bodyFn, bodyFnL, qSeq, fLst1, fCallL, sOwn, sPar2, sPar3, sSeq, sIf, sRet, sRetN, sNil, sAsg, sApp, sExpr, f1, f2, f1s, f2l, f2r, fV, fC, sSetI, getO, ownL, oIx, atI_0, atI_1, atI_2, ixN, oRel, asB, asI, pNo, fSl, fSls, oSl, oMod, oDiv, oAdd, oSub, oMul, oPow, τN, setE, outs, aNil, aV, aS, fB, fDisp, fCall, resAll, resG, onlyV, slotsG, argB, putB, fIf, fOr, fAnd, fOrV, fAndV, truD, oIs, isTup, isStr, isBool, isInt, isList, oEq, oNe, eqB, scB, itT, itL, itS, vL, cutP_1, cutP_0, cutP_lo, cutP_hi, oLen, oList, oTup, oAbs_i, oInt_b, oInt_i, lg7, lg7919, lg104729, lg60, oMax, oMin, beqS, fChain, fIfC, fZ, itZ, oEqL, h0, h2', KW, K] <;> first | rfl | exact ⟨rfl, rfl⟩ | omega | decide)) (by (simp [szLe, bodyFn, bodyFnL, qSeq, fLst1, fCallL, sOwn, sPar2, sPar3, sSeq, sIf, sRet, sRetN, sNil, sAsg, sApp, sExpr, f1, f2, f1s, f2l, f2r, fV, fC, sSetI, getO, ownL, oIx, atI_0, atI_1, atI_2, ixN, oRel, asB, asI, pNo, fSl, fSls, oSl, oMod, oDiv, oAdd, oSub, oMul, oPow, τN, setE, outs, aNil, aV, aS, fB, fDisp, fCall, resAll, resG, onlyV, slotsG, argB, putB, fIf, fOr, fAnd, fOrV, fAndV, truD, oIs, isTup, isStr, isBool, isInt, isList, oEq, oNe, eqB, scB, itT, itL, itS, vL, cutP_1, cutP_0, cutP_lo, cutP_hi, oLen, oList, oTup, oAbs_i, oInt_b, oInt_i, lg7, lg7919, lg104729, lg60, oMax, oMin, beqS, fChain, fIfC, fZ, itZ, oEqL, nameB, hk] <;> first | rfl | exact ⟨rfl, rfl⟩ | omega | decide))) rfl
        | false =>
          rw [hk] at K
          exact xBody rfl (xNo (E1 := [B.v (.str z), B.u]) (by (simp [szLe, bodyFn, bodyFnL, qSeq, fLst1, fCallL, sOwn, sPar2, sPar3, sSeq, sIf, sRet, sRetN, sNil, sAsg, sApp, sExpr, f1, f2, f1s, f2l, f2r, fV, fC, sSetI, getO, ownL, oIx, atI_0, atI_1, atI_2, ixN, oRel, asB, asI, pNo, fSl, fSls, oSl, oMod, oDiv, oAdd, oSub, oMul, oPow, τN, setE, outs, aNil, aV, aS, fB, fDisp, fCall, resAll, resG, onlyV, slotsG, argB, putB, fIf, fOr, fAnd, fOrV, fAndV, truD, oIs, isTup, isStr, isBool, isInt, isList, oEq, oNe, eqB, scB, itT, itL, itS, vL, cutP_1, cutP_0, cutP_lo, cutP_hi, oLen, oList, oTup, oAbs_i, oInt_b, oInt_i, lg7, lg7919, lg104729, lg60, oMax, oMin, beqS, fChain, fIfC, fZ, itZ, oEqL, h0, h2', KW, K] <;> first | rfl | exact ⟨rfl, rfl⟩ | omega | decide)) (by (simp [szLe, bodyFn, bodyFnL, qSeq, fLst1, fCallL, sOwn, sPar2, sPar3, sSeq, sIf, sRet, sRetN, sNil, sAsg, sApp, sExpr, f1, f2, f1s, f2l, f2r, fV, fC, sSetI, getO, ownL, oIx, atI_0, atI_1, atI_2, ixN, oRel, asB, asI, pNo, fSl, fSls, oSl, oMod, oDiv, oAdd, oSub, oMul, oPow, τN, setE, outs, aNil, aV, aS, fB, fDisp, fCall, resAll, resG, onlyV, slotsG, argB, putB, fIf, fOr, fAnd, fOrV, fAndV, truD, oIs, isTup, isStr, isBool, isInt, isList, oEq, oNe, eqB, scB, itT, itL, itS, vL, cutP_1, cutP_0, cutP_lo, cutP_hi, oLen, oList, oTup, oAbs_i, oInt_b, oInt_i, lg7, lg7919, lg104729, lg60, oMax, oMin, beqS, fChain, fIfC, fZ, itZ, oEqL, L', nameB, hk, h0', h2, ← sn] <;> first | rfl | exact ⟨rfl, rfl⟩ | omega | decide))) rfl
      · have h2' : (6 < (z.length : Int)) := by omega
        exact xBody rfl (xYes (E1 := [B.v (.str z), B.u]) (by (simp [szLe, bodyFn, bodyFnL, qSeq, fLst1, fCallL, sOwn, sPar2, sPar3, sSeq, sIf, sRet, sRetN, sNil, sAsg, sApp, sExpr, f1, f2, f1s, f2l, f2r, fV, fC, sSetI, getO, ownL, oIx, atI_0, atI_1, atI_2, ixN, oRel, asB, asI, pNo, fSl, fSls, oSl, oMod, oDiv, oAdd, oSub, oMul, oPow, τN, setE, outs, aNil, aV, aS, fB, fDisp, fCall, resAll, resG, onlyV, slotsG, argB, putB, fIf, fOr, fAnd, fOrV, fAndV, truD, oIs, isTup, isStr, isBool, isInt, isList, oEq, oNe, eqB, scB, itT, itL, itS, vL, cutP_1, cutP_0, cutP_lo, cutP_hi, oLen, oList, oTup, oAbs_i, oInt_b, oInt_i, lg7, lg7919, lg104729, lg60, oMax, oMin, beqS, fChain, fIfC, fZ, itZ, oEqL, h0, h2'] <;> first | rfl | exact ⟨rfl, rfl⟩ | omega | decide)) (by (simp [szLe, bodyFn, bodyFnL, qSeq, fLst1, fCallL, sOwn, sPar2, sPar3, sSeq, sIf, sRet, sRetN, sNil, sAsg, sApp, sExpr, f1, f2, f1s, f2l, f2r, fV, fC, sSetI, getO, ownL, oIx, atI_0, atI_1, atI_2, ixN, oRel, asB, asI, pNo, fSl, fSls, oSl, oMod, oDiv, oAdd, oSub, oMul, oPow, τN, setE, outs, aNil, aV, aS, fB, fDisp, fCall, resAll, resG, onlyV, slotsG, argB, putB, fIf, fOr, fAnd, fOrV, fAndV, truD, oIs, isTup, isStr, isBool, isInt, isList, oEq, oNe, eqB, scB, itT, itL, itS, vL, cutP_1, cutP_0, cutP_lo, cutP_hi, oLen, oList, oTup, oAbs_i, oInt_b, oInt_i, lg7, lg7919, lg104729, lg60, oMax, oMin, beqS, fChain, fIfC, fZ, itZ, oEqL, nameB, h2] <;> first | rfl | exact ⟨rfl, rfl⟩ | omega | decide))) rfl
  | _ => exact xBody rfl (xYes (by (simp [szLe, bodyFn, bodyFnL, qSeq, fLst1, fCallL, sOwn, sPar2, sPar3, sSeq, sIf, sRet, sRetN, sNil, sAsg, sApp, sExpr, f1, f2, f1s, f2l, f2r, fV, fC, sSetI, getO, ownL, oIx, atI_0, atI_1, atI_2, ixN, oRel, asB, asI, pNo, fSl, fSls, oSl, oMod, oDiv, oAdd, oSub, oMul, oPow, τN, setE, outs, aNil, aV, aS, fB, fDisp, fCall, resAll, resG, onlyV, slotsG, argB, putB, fIf, fOr, fAnd, fOrV, fAndV, truD, oIs, isTup, isStr, isBool, isInt, isList, oEq, oNe, eqB, scB, oIn, oNotIn, inB, flatP, eqF, oInT, oIxT, itT, itL, itS, vL, cutP_1, cutP_0, cutP_lo, cutP_hi, oLen, oList, oTup, oAbs_i, oInt_b, oInt_i, lg7, lg7919, lg104729, lg60, oMax, oMin, beqS] <;> first | rfl | exact ⟨rfl, rfl⟩ | omega | decide)) (by (simp [szLe, bodyFn, bodyFnL, qSeq, fLst1, fCallL, sOwn, sPar2, sPar3, sSeq, sIf, sRet, sRetN, sNil, sAsg, sApp, sExpr, f1, f2, f1s, f2l, f2r, fV, fC, sSetI, getO, ownL, oIx, atI_0, atI_1, atI_2, ixN, oRel, asB, asI, pNo, fSl, fSls, oSl, oMod, oDiv, oAdd, oSub, oMul, oPow, τN, setE, outs, aNil, aV, aS, fB, fDisp, fCall, resAll, resG, onlyV, slotsG, argB, putB, fIf, fOr, fAnd, fOrV, fAndV, truD, oIs, isTup, isStr, isBool, isInt, isList, oEq, oNe, eqB, scB, oIn, oNotIn, inB, flatP, eqF, oInT, oIxT, itT, itL, itS, vL, cutP_1, cutP_0, cutP_lo, cutP_hi, oLen, oList, oTup, oAbs_i, oInt_b, oInt_i, lg7, lg7919, lg104729, lg60, oMax, oMin, beqS] <;> first | rfl | exact ⟨rfl, rfl⟩ | omega | decide))) rfl
def wholeB : PyData → Bool
  | .int _ => true
  | _ => false
def numB : PyData → Bool
  | .int i => decide (-1000000000 ≤ i) && decide (i ≤ 1000000000)
  | _ => false
theorem whole_ok (n : Nat) (d : PyData) : (fs (n + 1)).is_whole [B.v d] = some (.bool (wholeB d), []) := by
  show bodyFn [] 0 (b_is_whole (fs n)) [B.v d] = _
  cases d <;> exact xBody rfl (by unfold b_is_whole; (simp [szLe, bodyFn, bodyFnL, qSeq, fLst1, fCallL, sOwn, sPar2, sPar3, sSeq, sIf, sRet, sRetN, sNil, sAsg, sApp, sExpr, f1, f2, f1s, f2l, f2r, fV, fC, sSetI, getO, ownL, oIx, atI_0, atI_1, atI_2, ixN, oRel, asB, asI, pNo, fSl, fSls, oSl, oMod, oDiv, oAdd, oSub, oMul, oPow, τN, setE, outs, aNil, aV, aS, fB, fDisp, fCall, resAll, resG, onlyV, slotsG, argB, putB, fIf, fOr, fAnd, fOrV, fAndV, truD, oIs, isTup, isStr, isBool, isInt, isList, oEq, oNe, eqB, scB, oIn, oNotIn, inB, flatP, eqF, oInT, oIxT, itT, itL, itS, vL, cutP_1, cutP_0, cutP_lo, cutP_hi, oLen, oList, oTup, oAbs_i, oInt_b, oInt_i, lg7, lg7919, lg104729, lg60, oMax, oMin, beqS, wholeB] <;> first | rfl | exact ⟨rfl, rfl⟩ | omega | decide)) rfl
theorem num_isok (n : Nat) (d : PyData) : (fs (n + 2)).is_num [B.v d] = some (.bool (numB d), []) := by
  show bodyFn [] 0 (b_is_num (fs (n + 1))) [B.v d] = _
  have W := whole_ok n d
  cases d with
  | int i =>
    by_cases h1 : -1000000000 ≤ i
    · exact xBody rfl (by unfold b_is_num; (simp [szLe, bodyFn, bodyFnL, qSeq, fLst1, fCallL, sOwn, sPar2, sPar3, sSeq, sIf, sRet, sRetN, sNil, sAsg, sApp, sExpr, f1, f2, f1s, f2l, f2r, fV, fC, sSetI, getO, ownL, oIx, atI_0, atI_1, atI_2, ixN, oRel, asB, asI, pNo, fSl, fSls, oSl, oMod, oDiv, oAdd, oSub, oMul, oPow, τN, setE, outs, aNil, aV, aS, fB, fDisp, fCall, resAll, resG, onlyV, slotsG, argB, putB, fIf, fOr, fAnd, fOrV, fAndV, truD, oIs, isTup, isStr, isBool, isInt, isList, oEq, oNe, eqB, scB, itT, itL, itS, vL, cutP_1, cutP_0, cutP_lo, cutP_hi, oLen, oList, oTup, oAbs_i, oInt_b, oInt_i, lg7, lg7919, lg104729, lg60, oMax, oMin, beqS, fChain, fIfC, fZ, itZ, oEqL, wholeB, numB, W, h1] <;> first | rfl | exact ⟨rfl, rfl⟩ | omega | decide)) rfl
    · exact xBody rfl (by unfold b_is_num; (simp [szLe, bodyFn, bodyFnL, qSeq, fLst1, fCallL, sOwn, sPar2, sPar3, sSeq, sIf, sRet, sRetN, sNil, sAsg, sApp, sExpr, f1, f2, f1s, f2l, f2r, fV, fC, sSetI, getO, ownL, oIx, atI_0, atI_1, atI_2, ixN, oRel, asB, asI, pNo, fSl, fSls, oSl, oMod, oDiv, oAdd, oSub, oMul, oPow, τN, setE, outs, aNil, aV, aS, fB, fDisp, fCall, resAll, resG, onlyV, slotsG, argB, putB, fIf, fOr, fAnd, fOrV, fAndV, truD, oIs, isTup, isStr, isBool, isInt, isList, oEq, oNe, eqB, scB, itT, itL, itS, vL, cutP_1, cutP_0, cutP_lo, cutP_hi, oLen, oList, oTup, oAbs_i, oInt_b, oInt_i, lg7, lg7919, lg104729, lg60, oMax, oMin, beqS, fChain, fIfC, fZ, itZ, oEqL, wholeB, numB, W, h1] <;> first | rfl | exact ⟨rfl, rfl⟩ | omega | decide)) rfl
  | _ => exact xBody rfl (by unfold b_is_num; (simp [szLe, bodyFn, bodyFnL, qSeq, fLst1, fCallL, sOwn, sPar2, sPar3, sSeq, sIf, sRet, sRetN, sNil, sAsg, sApp, sExpr, f1, f2, f1s, f2l, f2r, fV, fC, sSetI, getO, ownL, oIx, atI_0, atI_1, atI_2, ixN, oRel, asB, asI, pNo, fSl, fSls, oSl, oMod, oDiv, oAdd, oSub, oMul, oPow, τN, setE, outs, aNil, aV, aS, fB, fDisp, fCall, resAll, resG, onlyV, slotsG, argB, putB, fIf, fOr, fAnd, fOrV, fAndV, truD, oIs, isTup, isStr, isBool, isInt, isList, oEq, oNe, eqB, scB, itT, itL, itS, vL, cutP_1, cutP_0, cutP_lo, cutP_hi, oLen, oList, oTup, oAbs_i, oInt_b, oInt_i, lg7, lg7919, lg104729, lg60, oMax, oMin, beqS, fChain, fIfC, fZ, itZ, oEqL, wholeB, numB, W] <;> first | rfl | exact ⟨rfl, rfl⟩ | omega | decide)) rfl
theorem law_num_isok (n : Nat) (d : PyData) : (fs (n + 1)).law_is_num [B.v d] = some (.bool (numB d), []) := by
  show bodyFn [] 0 (b_law_is_num (fs n)) [B.v d] = _
  cases d with
  | int i =>
    have e : decide (absI i ≤ 1000000000) = (decide (-1000000000 ≤ i) && decide (i ≤ 1000000000)) := by
      unfold absI
      by_cases h : i < 0
      · rw [if_pos h, Bool.eq_iff_iff, Bool.and_eq_true]; simp only [decide_eq_true_eq]; omega
      · rw [if_neg h, Bool.eq_iff_iff, Bool.and_eq_true]; simp only [decide_eq_true_eq]; omega
    exact xBody rfl (by unfold b_law_is_num; (simp [szLe, bodyFn, bodyFnL, qSeq, fLst1, fCallL, sOwn, sPar2, sPar3, sSeq, sIf, sRet, sRetN, sNil, sAsg, sApp, sExpr, f1, f2, f1s, f2l, f2r, fV, fC, sSetI, getO, ownL, oIx, atI_0, atI_1, atI_2, ixN, oRel, asB, asI, pNo, fSl, fSls, oSl, oMod, oDiv, oAdd, oSub, oMul, oPow, τN, setE, outs, aNil, aV, aS, fB, fDisp, fCall, resAll, resG, onlyV, slotsG, argB, putB, fIf, fOr, fAnd, fOrV, fAndV, truD, oIs, isTup, isStr, isBool, isInt, isList, oEq, oNe, eqB, scB, itT, itL, itS, vL, cutP_1, cutP_0, cutP_lo, cutP_hi, oLen, oList, oTup, oAbs_i, oInt_b, oInt_i, lg7, lg7919, lg104729, lg60, oMax, oMin, beqS, fChain, fIfC, fZ, itZ, oEqL, numB, e] <;> first | rfl | exact ⟨rfl, rfl⟩ | omega | decide)) rfl
  | _ => exact xBody rfl (by unfold b_law_is_num; (simp [szLe, bodyFn, bodyFnL, qSeq, fLst1, fCallL, sOwn, sPar2, sPar3, sSeq, sIf, sRet, sRetN, sNil, sAsg, sApp, sExpr, f1, f2, f1s, f2l, f2r, fV, fC, sSetI, getO, ownL, oIx, atI_0, atI_1, atI_2, ixN, oRel, asB, asI, pNo, fSl, fSls, oSl, oMod, oDiv, oAdd, oSub, oMul, oPow, τN, setE, outs, aNil, aV, aS, fB, fDisp, fCall, resAll, resG, onlyV, slotsG, argB, putB, fIf, fOr, fAnd, fOrV, fAndV, truD, oIs, isTup, isStr, isBool, isInt, isList, oEq, oNe, eqB, scB, itT, itL, itS, vL, cutP_1, cutP_0, cutP_lo, cutP_hi, oLen, oList, oTup, oAbs_i, oInt_b, oInt_i, lg7, lg7919, lg104729, lg60, oMax, oMin, beqS, fChain, fIfC, fZ, itZ, oEqL, numB] <;> first | rfl | exact ⟨rfl, rfl⟩ | omega | decide)) rfl
def signB : PyData → Bool
  | .str z => decide (z = "+") || (decide (z = "-") || (decide (z = "*") || (decide (z = "/") || (decide (z = "<") || decide (z = "=")))))
  | _ => false
theorem sign_isok (n : Nat) (d : PyData) : (fs (n + 1)).is_sign [B.v d] = some (.bool (signB d), []) := by
  show bodyFn [] 0 (b_is_sign (fs n)) [B.v d] = _
  cases d <;> exact xBody rfl (by unfold b_is_sign; (simp [szLe, bodyFn, bodyFnL, qSeq, fLst1, fCallL, sOwn, sPar2, sPar3, sSeq, sIf, sRet, sRetN, sNil, sAsg, sApp, sExpr, f1, f2, f1s, f2l, f2r, fV, fC, sSetI, getO, ownL, oIx, atI_0, atI_1, atI_2, ixN, oRel, asB, asI, pNo, fSl, fSls, oSl, oMod, oDiv, oAdd, oSub, oMul, oPow, τN, setE, outs, aNil, aV, aS, fB, fDisp, fCall, resAll, resG, onlyV, slotsG, argB, putB, fIf, fOr, fAnd, fOrV, fAndV, truD, oIs, isTup, isStr, isBool, isInt, isList, oEq, oNe, eqB, scB, oIn, oNotIn, inB, flatP, eqF, oInT, oIxT, itT, itL, itS, vL, cutP_1, cutP_0, cutP_lo, cutP_hi, oLen, oList, oTup, oAbs_i, oInt_b, oInt_i, lg7, lg7919, lg104729, lg60, oMax, oMin, beqS, signB] <;> first | rfl | exact ⟨rfl, rfl⟩ | omega | decide)) rfl
def rowB (d : PyData) (k : Nat) : Bool := match d with
  | .tuple xs => decide (xs.length = k)
  | _ => false
theorem row_ok (n : Nat) (d : PyData) (k : Nat) : (fs (n + 1)).is_row_of [B.v d, B.v (.int k)] = some (.bool (rowB d k), []) := by
  show bodyFn [] 0 (b_is_row_of (fs n)) [B.v d, B.v (.int k)] = _
  have e : ∀ l : Nat, ((l : Int) = (k : Int)) = (l = k) := fun l => propext (by omega)
  cases d <;> exact xBody rfl (by unfold b_is_row_of; (simp [szLe, bodyFn, bodyFnL, qSeq, fLst1, fCallL, sOwn, sPar2, sPar3, sSeq, sIf, sRet, sRetN, sNil, sAsg, sApp, sExpr, f1, f2, f1s, f2l, f2r, fV, fC, sSetI, getO, ownL, oIx, atI_0, atI_1, atI_2, ixN, oRel, asB, asI, pNo, fSl, fSls, oSl, oMod, oDiv, oAdd, oSub, oMul, oPow, τN, setE, outs, aNil, aV, aS, fB, fDisp, fCall, resAll, resG, onlyV, slotsG, argB, putB, fIf, fOr, fAnd, fOrV, fAndV, truD, oIs, isTup, isStr, isBool, isInt, isList, oEq, oNe, eqB, scB, oIn, oNotIn, inB, flatP, eqF, oInT, oIxT, itT, itL, itS, vL, cutP_1, cutP_0, cutP_lo, cutP_hi, oLen, oList, oTup, oAbs_i, oInt_b, oInt_i, lg7, lg7919, lg104729, lg60, oMax, oMin, beqS, rowB, e] <;> first | rfl | exact ⟨rfl, rfl⟩ | omega | decide)) rfl
def modeB : PyData → Bool
  | .str z => decide (z = "take") || (decide (z = "look") || decide (z = "alter"))
  | _ => false
theorem mode_ok (n : Nat) (d : PyData) : (fs (n + 1)).is_mode [B.v d] = some (.bool (modeB d), []) := by
  show bodyFn [] 0 (b_is_mode (fs n)) [B.v d] = _
  cases d <;> exact xBody rfl (by unfold b_is_mode; (simp [szLe, bodyFn, bodyFnL, qSeq, fLst1, fCallL, sOwn, sPar2, sPar3, sSeq, sIf, sRet, sRetN, sNil, sAsg, sApp, sExpr, f1, f2, f1s, f2l, f2r, fV, fC, sSetI, getO, ownL, oIx, atI_0, atI_1, atI_2, ixN, oRel, asB, asI, pNo, fSl, fSls, oSl, oMod, oDiv, oAdd, oSub, oMul, oPow, τN, setE, outs, aNil, aV, aS, fB, fDisp, fCall, resAll, resG, onlyV, slotsG, argB, putB, fIf, fOr, fAnd, fOrV, fAndV, truD, oIs, isTup, isStr, isBool, isInt, isList, oEq, oNe, eqB, scB, oIn, oNotIn, inB, flatP, eqF, oInT, oIxT, itT, itL, itS, vL, cutP_1, cutP_0, cutP_lo, cutP_hi, oLen, oList, oTup, oAbs_i, oInt_b, oInt_i, lg7, lg7919, lg104729, lg60, oMax, oMin, beqS, modeB] <;> first | rfl | exact ⟨rfl, rfl⟩ | omega | decide)) rfl

def kindO : PyData → Bool
  | .none => true
  | d => kindB 6 d
def armB (e : PyData → Bool) : PyData → Bool
  | .tuple [.str m, x] => if m = ("take" : Str) then e x else (decide (m = ("look" : Str)) || decide (m = ("alter" : Str))) && nameB x
  | _ => false
def argsB (e : PyData → Bool) : PyData → Bool
  | .tuple xs => decide (xs.length ≤ 4) && xs.all (armB e)
  | _ => false
def exprF (e : PyData → Bool) (w : Str) (xs : List PyData) : Bool :=
  if w = ("num" : Str) then (match xs with | [x] => numB x | _ => false)
  else if w = ("name" : Str) ∨ w = ("see" : Str) ∨ w = ("peek" : Str) then (match xs with | [x] => nameB x | _ => false)
  else if w = ("box" : Str) ∨ w = ("unbox" : Str) ∨ w = ("loose" : Str) then (match xs with | [x] => e x | _ => false)
  else if w = ("op" : Str) then (match xs with | [s, a, b] => signB s && (e a && e b) | _ => false)
  else if w = ("pair" : Str) then (match xs with | [a, b] => e a && e b | _ => false)
  else if w = ("call" : Str) then (match xs with | [n, k, as] => nameB n && (kindO k && argsB e as) | _ => false)
  else false
def exprB : Nat → PyData → Bool
  | 0, _ => false
  | k + 1, .tuple (.str w :: xs) => exprF (exprB k) w xs
  | _ + 1, _ => false
theorem arg_ok {n : Nat} {k : Int} {e : PyData → Bool} (hE : ∀ x, (fs (n + 1)).is_expression [B.v x, B.v (.int k)] = some (.bool (e x), [])) (d : PyData) : (fs (n + 2)).is_argument [B.v d, B.v (.int k)] = some (.bool (armB e d), []) := by
  show bodyFn [] 0 (b_is_argument (fs (n + 1))) [B.v d, B.v (.int k)] = _
  have R : ∀ d, (fs (n + 1)).is_row_of [B.v d, B.v (.int 2)] = some (.bool (rowB d 2), []) := fun d => row_ok n d 2
  have M := mode_ok n
  have N := name_isok n
  have no : rowB d 2 = false → armB e d = false → bodyFn [] 0 (b_is_argument (fs (n + 1))) [B.v d, B.v (.int k)] = some (.bool (armB e d), []) := fun h1 h2 => by
    rw [h2]
    exact xBody rfl (xYes (E1 := [B.v d, B.v (.int k)]) (by (simp [szLe, bodyFn, bodyFnL, qSeq, fLst1, fCallL, sOwn, sPar2, sPar3, sSeq, sIf, sRet, sRetN, sNil, sAsg, sApp, sExpr, f1, f2, f1s, f2l, f2r, fV, fC, sSetI, getO, ownL, oIx, atI_0, atI_1, atI_2, ixN, oRel, asB, asI, pNo, fSl, fSls, oSl, oMod, oDiv, oAdd, oSub, oMul, oPow, τN, setE, outs, aNil, aV, aS, fB, fDisp, fCall, resAll, resG, onlyV, slotsG, argB, putB, fIf, fOr, fAnd, fOrV, fAndV, truD, oIs, isTup, isStr, isBool, isInt, isList, oEq, oNe, eqB, scB, itT, itL, itS, vL, cutP_1, cutP_0, cutP_lo, cutP_hi, oLen, oList, oTup, oAbs_i, oInt_b, oInt_i, lg7, lg7919, lg104729, lg60, oMax, oMin, beqS, fChain, fIfC, fZ, itZ, oEqL, R, h1] <;> first | rfl | exact ⟨rfl, rfl⟩ | omega | decide)) (by (simp [szLe, bodyFn, bodyFnL, qSeq, fLst1, fCallL, sOwn, sPar2, sPar3, sSeq, sIf, sRet, sRetN, sNil, sAsg, sApp, sExpr, f1, f2, f1s, f2l, f2r, fV, fC, sSetI, getO, ownL, oIx, atI_0, atI_1, atI_2, ixN, oRel, asB, asI, pNo, fSl, fSls, oSl, oMod, oDiv, oAdd, oSub, oMul, oPow, τN, setE, outs, aNil, aV, aS, fB, fDisp, fCall, resAll, resG, onlyV, slotsG, argB, putB, fIf, fOr, fAnd, fOrV, fAndV, truD, oIs, isTup, isStr, isBool, isInt, isList, oEq, oNe, eqB, scB, itT, itL, itS, vL, cutP_1, cutP_0, cutP_lo, cutP_hi, oLen, oList, oTup, oAbs_i, oInt_b, oInt_i, lg7, lg7919, lg104729, lg60, oMax, oMin, beqS, fChain, fIfC, fZ, itZ, oEqL] <;> first | rfl | exact ⟨rfl, rfl⟩ | omega | decide))) rfl
  cases d with
  | tuple xs =>
    match xs with
    | [m, x] =>
      cases m with
      | str z =>
        have rw2 : rowB (.tuple [.str z, x]) 2 = true := rfl
        by_cases h1 : z = ("take" : Str)
        · subst h1
          exact xBody rfl (xNo (E1 := [B.v (.tuple [.str "take", x]), B.v (.int k)]) (by (simp [szLe, bodyFn, bodyFnL, qSeq, fLst1, fCallL, sOwn, sPar2, sPar3, sSeq, sIf, sRet, sRetN, sNil, sAsg, sApp, sExpr, f1, f2, f1s, f2l, f2r, fV, fC, sSetI, getO, ownL, oIx, atI_0, atI_1, atI_2, ixN, oRel, asB, asI, pNo, fSl, fSls, oSl, oMod, oDiv, oAdd, oSub, oMul, oPow, τN, setE, outs, aNil, aV, aS, fB, fDisp, fCall, resAll, resG, onlyV, slotsG, argB, putB, fIf, fOr, fAnd, fOrV, fAndV, truD, oIs, isTup, isStr, isBool, isInt, isList, oEq, oNe, eqB, scB, itT, itL, itS, vL, cutP_1, cutP_0, cutP_lo, cutP_hi, oLen, oList, oTup, oAbs_i, oInt_b, oInt_i, lg7, lg7919, lg104729, lg60, oMax, oMin, beqS, fChain, fIfC, fZ, itZ, oEqL, R, M, rw2, modeB] <;> first | rfl | exact ⟨rfl, rfl⟩ | omega | decide)) (by (simp [szLe, bodyFn, bodyFnL, qSeq, fLst1, fCallL, sOwn, sPar2, sPar3, sSeq, sIf, sRet, sRetN, sNil, sAsg, sApp, sExpr, f1, f2, f1s, f2l, f2r, fV, fC, sSetI, getO, ownL, oIx, atI_0, atI_1, atI_2, ixN, oRel, asB, asI, pNo, fSl, fSls, oSl, oMod, oDiv, oAdd, oSub, oMul, oPow, τN, setE, outs, aNil, aV, aS, fB, fDisp, fCall, resAll, resG, onlyV, slotsG, argB, putB, fIf, fOr, fAnd, fOrV, fAndV, truD, oIs, isTup, isStr, isBool, isInt, isList, oEq, oNe, eqB, scB, itT, itL, itS, vL, cutP_1, cutP_0, cutP_lo, cutP_hi, oLen, oList, oTup, oAbs_i, oInt_b, oInt_i, lg7, lg7919, lg104729, lg60, oMax, oMin, beqS, fChain, fIfC, fZ, itZ, oEqL, hE, armB] <;> first | rfl | exact ⟨rfl, rfl⟩ | omega | decide))) rfl
        · cases hm : modeB (.str z) with
          | true =>
            have hm' : (decide (z = ("look" : Str)) || decide (z = ("alter" : Str))) = true := by
              simpa [modeB, h1] using hm
            exact xBody rfl (xNo (E1 := [B.v (.tuple [.str z, x]), B.v (.int k)]) (by (simp [szLe, bodyFn, bodyFnL, qSeq, fLst1, fCallL, sOwn, sPar2, sPar3, sSeq, sIf, sRet, sRetN, sNil, sAsg, sApp, sExpr, f1, f2, f1s, f2l, f2r, fV, fC, sSetI, getO, ownL, oIx, atI_0, atI_1, atI_2, ixN, oRel, asB, asI, pNo, fSl, fSls, oSl, oMod, oDiv, oAdd, oSub, oMul, oPow, τN, setE, outs, aNil, aV, aS, fB, fDisp, fCall, resAll, resG, onlyV, slotsG, argB, putB, fIf, fOr, fAnd, fOrV, fAndV, truD, oIs, isTup, isStr, isBool, isInt, isList, oEq, oNe, eqB, scB, itT, itL, itS, vL, cutP_1, cutP_0, cutP_lo, cutP_hi, oLen, oList, oTup, oAbs_i, oInt_b, oInt_i, lg7, lg7919, lg104729, lg60, oMax, oMin, beqS, fChain, fIfC, fZ, itZ, oEqL, R, M, rw2, hm] <;> first | rfl | exact ⟨rfl, rfl⟩ | omega | decide)) (by (simp [szLe, bodyFn, bodyFnL, qSeq, fLst1, fCallL, sOwn, sPar2, sPar3, sSeq, sIf, sRet, sRetN, sNil, sAsg, sApp, sExpr, f1, f2, f1s, f2l, f2r, fV, fC, sSetI, getO, ownL, oIx, atI_0, atI_1, atI_2, ixN, oRel, asB, asI, pNo, fSl, fSls, oSl, oMod, oDiv, oAdd, oSub, oMul, oPow, τN, setE, outs, aNil, aV, aS, fB, fDisp, fCall, resAll, resG, onlyV, slotsG, argB, putB, fIf, fOr, fAnd, fOrV, fAndV, truD, oIs, isTup, isStr, isBool, isInt, isList, oEq, oNe, eqB, scB, itT, itL, itS, vL, cutP_1, cutP_0, cutP_lo, cutP_hi, oLen, oList, oTup, oAbs_i, oInt_b, oInt_i, lg7, lg7919, lg104729, lg60, oMax, oMin, beqS, fChain, fIfC, fZ, itZ, oEqL, N, armB, h1, hm'] <;> first | rfl | exact ⟨rfl, rfl⟩ | omega | decide))) rfl
          | false =>
            have hm' : (decide (z = ("look" : Str)) || decide (z = ("alter" : Str))) = false := by
              simpa [modeB, h1] using hm
            exact xBody rfl (xYes (E1 := [B.v (.tuple [.str z, x]), B.v (.int k)]) (by (simp [szLe, bodyFn, bodyFnL, qSeq, fLst1, fCallL, sOwn, sPar2, sPar3, sSeq, sIf, sRet, sRetN, sNil, sAsg, sApp, sExpr, f1, f2, f1s, f2l, f2r, fV, fC, sSetI, getO, ownL, oIx, atI_0, atI_1, atI_2, ixN, oRel, asB, asI, pNo, fSl, fSls, oSl, oMod, oDiv, oAdd, oSub, oMul, oPow, τN, setE, outs, aNil, aV, aS, fB, fDisp, fCall, resAll, resG, onlyV, slotsG, argB, putB, fIf, fOr, fAnd, fOrV, fAndV, truD, oIs, isTup, isStr, isBool, isInt, isList, oEq, oNe, eqB, scB, itT, itL, itS, vL, cutP_1, cutP_0, cutP_lo, cutP_hi, oLen, oList, oTup, oAbs_i, oInt_b, oInt_i, lg7, lg7919, lg104729, lg60, oMax, oMin, beqS, fChain, fIfC, fZ, itZ, oEqL, R, M, rw2, hm] <;> first | rfl | exact ⟨rfl, rfl⟩ | omega | decide)) (by (simp [szLe, bodyFn, bodyFnL, qSeq, fLst1, fCallL, sOwn, sPar2, sPar3, sSeq, sIf, sRet, sRetN, sNil, sAsg, sApp, sExpr, f1, f2, f1s, f2l, f2r, fV, fC, sSetI, getO, ownL, oIx, atI_0, atI_1, atI_2, ixN, oRel, asB, asI, pNo, fSl, fSls, oSl, oMod, oDiv, oAdd, oSub, oMul, oPow, τN, setE, outs, aNil, aV, aS, fB, fDisp, fCall, resAll, resG, onlyV, slotsG, argB, putB, fIf, fOr, fAnd, fOrV, fAndV, truD, oIs, isTup, isStr, isBool, isInt, isList, oEq, oNe, eqB, scB, itT, itL, itS, vL, cutP_1, cutP_0, cutP_lo, cutP_hi, oLen, oList, oTup, oAbs_i, oInt_b, oInt_i, lg7, lg7919, lg104729, lg60, oMax, oMin, beqS, fChain, fIfC, fZ, itZ, oEqL, armB, h1, hm'] <;> first | rfl | exact ⟨rfl, rfl⟩ | omega | decide))) rfl
      | _ => exact xBody rfl (xYes (by (simp [szLe, bodyFn, bodyFnL, qSeq, fLst1, fCallL, sOwn, sPar2, sPar3, sSeq, sIf, sRet, sRetN, sNil, sAsg, sApp, sExpr, f1, f2, f1s, f2l, f2r, fV, fC, sSetI, getO, ownL, oIx, atI_0, atI_1, atI_2, ixN, oRel, asB, asI, pNo, fSl, fSls, oSl, oMod, oDiv, oAdd, oSub, oMul, oPow, τN, setE, outs, aNil, aV, aS, fB, fDisp, fCall, resAll, resG, onlyV, slotsG, argB, putB, fIf, fOr, fAnd, fOrV, fAndV, truD, oIs, isTup, isStr, isBool, isInt, isList, oEq, oNe, eqB, scB, itT, itL, itS, vL, cutP_1, cutP_0, cutP_lo, cutP_hi, oLen, oList, oTup, oAbs_i, oInt_b, oInt_i, lg7, lg7919, lg104729, lg60, oMax, oMin, beqS, fChain, fIfC, fZ, itZ, oEqL, R, M, rowB, modeB] <;> first | rfl | exact ⟨rfl, rfl⟩ | omega | decide)) (by (simp [szLe, bodyFn, bodyFnL, qSeq, fLst1, fCallL, sOwn, sPar2, sPar3, sSeq, sIf, sRet, sRetN, sNil, sAsg, sApp, sExpr, f1, f2, f1s, f2l, f2r, fV, fC, sSetI, getO, ownL, oIx, atI_0, atI_1, atI_2, ixN, oRel, asB, asI, pNo, fSl, fSls, oSl, oMod, oDiv, oAdd, oSub, oMul, oPow, τN, setE, outs, aNil, aV, aS, fB, fDisp, fCall, resAll, resG, onlyV, slotsG, argB, putB, fIf, fOr, fAnd, fOrV, fAndV, truD, oIs, isTup, isStr, isBool, isInt, isList, oEq, oNe, eqB, scB, itT, itL, itS, vL, cutP_1, cutP_0, cutP_lo, cutP_hi, oLen, oList, oTup, oAbs_i, oInt_b, oInt_i, lg7, lg7919, lg104729, lg60, oMax, oMin, beqS, fChain, fIfC, fZ, itZ, oEqL, armB] <;> first | rfl | exact ⟨rfl, rfl⟩ | omega | decide))) rfl
    | [] => exact no rfl rfl
    | [_] => exact no rfl (by simp [armB])
    | _ :: _ :: _ :: _ => exact no (by simp [rowB]) (by simp [armB])
  | _ => exact no rfl rfl
theorem args_ok {n : Nat} {k : Int} {e : PyData → Bool} (hE : ∀ x, (fs (n + 1)).is_expression [B.v x, B.v (.int k)] = some (.bool (e x), [])) (d : PyData) : (fs (n + 3)).are_arguments [B.v d, B.v (.int k)] = some (.bool (argsB e d), []) := by
  show bodyFn [] 1 (b_are_arguments (fs (n + 2))) [B.v d, B.v (.int k)] = _
  have A := arg_ok hE
  cases d with
  | tuple xs =>
    have L := fLc_pure (vs := [2]) (fl := f1 itT (fV 0)) (τ := τN 2) (fe := fCall [] (fs (n + 2)).is_argument (aV (fV 2) (aV (fV 1) aNil))) (E := [B.v (.tuple xs), B.v (.int k), B.u]) (E1 := [B.v (.tuple xs), B.v (.int k), B.u]) (E3 := [B.v (.tuple xs), B.v (.int k), B.u]) (Ew := [B.v (.tuple xs), B.v (.int k), B.u]) (fun d => .bool (armB e d)) (ds := xs) rfl rfl rfl rfl
      fun d hd => ⟨[(2, d)], [B.v (.tuple xs), B.v (.int k), B.v d], rfl, by (simp [szLe, bodyFn, bodyFnL, qSeq, fLst1, fCallL, sOwn, sPar2, sPar3, sSeq, sIf, sRet, sRetN, sNil, sAsg, sApp, sExpr, f1, f2, f1s, f2l, f2r, fV, fC, sSetI, getO, ownL, oIx, atI_0, atI_1, atI_2, ixN, oRel, asB, asI, pNo, fSl, fSls, oSl, oMod, oDiv, oAdd, oSub, oMul, oPow, τN, setE, outs, aNil, aV, aS, fB, fDisp, fCall, resAll, resG, onlyV, slotsG, argB, putB, fIf, fOr, fAnd, fOrV, fAndV, truD, oIs, isTup, isStr, isBool, isInt, isList, oEq, oNe, eqB, scB, itT, itL, itS, vL, cutP_1, cutP_0, cutP_lo, cutP_hi, oLen, oList, oTup, oAbs_i, oInt_b, oInt_i, lg7, lg7919, lg104729, lg60, oMax, oMin, beqS, fChain, fIfC, fZ, itZ, oEqL, A] <;> first | rfl | exact ⟨rfl, rfl⟩ | omega | decide), rfl⟩
    by_cases h : xs.length ≤ 4
    · have h' : ¬ (4 < (xs.length : Int)) := by omega
      exact xBody rfl (xNo (E1 := [B.v (.tuple xs), B.v (.int k), B.u]) (by (simp [szLe, bodyFn, bodyFnL, qSeq, fLst1, fCallL, sOwn, sPar2, sPar3, sSeq, sIf, sRet, sRetN, sNil, sAsg, sApp, sExpr, f1, f2, f1s, f2l, f2r, fV, fC, sSetI, getO, ownL, oIx, atI_0, atI_1, atI_2, ixN, oRel, asB, asI, pNo, fSl, fSls, oSl, oMod, oDiv, oAdd, oSub, oMul, oPow, τN, setE, outs, aNil, aV, aS, fB, fDisp, fCall, resAll, resG, onlyV, slotsG, argB, putB, fIf, fOr, fAnd, fOrV, fAndV, truD, oIs, isTup, isStr, isBool, isInt, isList, oEq, oNe, eqB, scB, itT, itL, itS, vL, cutP_1, cutP_0, cutP_lo, cutP_hi, oLen, oList, oTup, oAbs_i, oInt_b, oInt_i, lg7, lg7919, lg104729, lg60, oMax, oMin, beqS, fChain, fIfC, fZ, itZ, oEqL, h'] <;> first | rfl | exact ⟨rfl, rfl⟩ | omega | decide)) (by (simp [szLe, bodyFn, bodyFnL, qSeq, fLst1, fCallL, sOwn, sPar2, sPar3, sSeq, sIf, sRet, sRetN, sNil, sAsg, sApp, sExpr, f1, f2, f1s, f2l, f2r, fV, fC, sSetI, getO, ownL, oIx, atI_0, atI_1, atI_2, ixN, oRel, asB, asI, pNo, fSl, fSls, oSl, oMod, oDiv, oAdd, oSub, oMul, oPow, τN, setE, outs, aNil, aV, aS, fB, fDisp, fCall, resAll, resG, onlyV, slotsG, argB, putB, fIf, fOr, fAnd, fOrV, fAndV, truD, oIs, isTup, isStr, isBool, isInt, isList, oEq, oNe, eqB, scB, itT, itL, itS, vL, cutP_1, cutP_0, cutP_lo, cutP_hi, oLen, oList, oTup, oAbs_i, oInt_b, oInt_i, lg7, lg7919, lg104729, lg60, oMax, oMin, beqS, fChain, fIfC, fZ, itZ, oEqL, L, argsB, h, oAll, allB_map] <;> first | rfl | exact ⟨rfl, rfl⟩ | omega | decide))) rfl
    · have h' : (4 < (xs.length : Int)) := by omega
      exact xBody rfl (xYes (E1 := [B.v (.tuple xs), B.v (.int k), B.u]) (by (simp [szLe, bodyFn, bodyFnL, qSeq, fLst1, fCallL, sOwn, sPar2, sPar3, sSeq, sIf, sRet, sRetN, sNil, sAsg, sApp, sExpr, f1, f2, f1s, f2l, f2r, fV, fC, sSetI, getO, ownL, oIx, atI_0, atI_1, atI_2, ixN, oRel, asB, asI, pNo, fSl, fSls, oSl, oMod, oDiv, oAdd, oSub, oMul, oPow, τN, setE, outs, aNil, aV, aS, fB, fDisp, fCall, resAll, resG, onlyV, slotsG, argB, putB, fIf, fOr, fAnd, fOrV, fAndV, truD, oIs, isTup, isStr, isBool, isInt, isList, oEq, oNe, eqB, scB, itT, itL, itS, vL, cutP_1, cutP_0, cutP_lo, cutP_hi, oLen, oList, oTup, oAbs_i, oInt_b, oInt_i, lg7, lg7919, lg104729, lg60, oMax, oMin, beqS, fChain, fIfC, fZ, itZ, oEqL, h'] <;> first | rfl | exact ⟨rfl, rfl⟩ | omega | decide)) (by (simp [szLe, bodyFn, bodyFnL, qSeq, fLst1, fCallL, sOwn, sPar2, sPar3, sSeq, sIf, sRet, sRetN, sNil, sAsg, sApp, sExpr, f1, f2, f1s, f2l, f2r, fV, fC, sSetI, getO, ownL, oIx, atI_0, atI_1, atI_2, ixN, oRel, asB, asI, pNo, fSl, fSls, oSl, oMod, oDiv, oAdd, oSub, oMul, oPow, τN, setE, outs, aNil, aV, aS, fB, fDisp, fCall, resAll, resG, onlyV, slotsG, argB, putB, fIf, fOr, fAnd, fOrV, fAndV, truD, oIs, isTup, isStr, isBool, isInt, isList, oEq, oNe, eqB, scB, itT, itL, itS, vL, cutP_1, cutP_0, cutP_lo, cutP_hi, oLen, oList, oTup, oAbs_i, oInt_b, oInt_i, lg7, lg7919, lg104729, lg60, oMax, oMin, beqS, fChain, fIfC, fZ, itZ, oEqL, argsB, h] <;> first | rfl | exact ⟨rfl, rfl⟩ | omega | decide))) rfl
  | _ => exact xBody rfl (xYes (by (simp [szLe, bodyFn, bodyFnL, qSeq, fLst1, fCallL, sOwn, sPar2, sPar3, sSeq, sIf, sRet, sRetN, sNil, sAsg, sApp, sExpr, f1, f2, f1s, f2l, f2r, fV, fC, sSetI, getO, ownL, oIx, atI_0, atI_1, atI_2, ixN, oRel, asB, asI, pNo, fSl, fSls, oSl, oMod, oDiv, oAdd, oSub, oMul, oPow, τN, setE, outs, aNil, aV, aS, fB, fDisp, fCall, resAll, resG, onlyV, slotsG, argB, putB, fIf, fOr, fAnd, fOrV, fAndV, truD, oIs, isTup, isStr, isBool, isInt, isList, oEq, oNe, eqB, scB, itT, itL, itS, vL, cutP_1, cutP_0, cutP_lo, cutP_hi, oLen, oList, oTup, oAbs_i, oInt_b, oInt_i, lg7, lg7919, lg104729, lg60, oMax, oMin, beqS, fChain, fIfC, fZ, itZ, oEqL] <;> first | rfl | exact ⟨rfl, rfl⟩ | omega | decide)) (by (simp [szLe, bodyFn, bodyFnL, qSeq, fLst1, fCallL, sOwn, sPar2, sPar3, sSeq, sIf, sRet, sRetN, sNil, sAsg, sApp, sExpr, f1, f2, f1s, f2l, f2r, fV, fC, sSetI, getO, ownL, oIx, atI_0, atI_1, atI_2, ixN, oRel, asB, asI, pNo, fSl, fSls, oSl, oMod, oDiv, oAdd, oSub, oMul, oPow, τN, setE, outs, aNil, aV, aS, fB, fDisp, fCall, resAll, resG, onlyV, slotsG, argB, putB, fIf, fOr, fAnd, fOrV, fAndV, truD, oIs, isTup, isStr, isBool, isInt, isList, oEq, oNe, eqB, scB, itT, itL, itS, vL, cutP_1, cutP_0, cutP_lo, cutP_hi, oLen, oList, oTup, oAbs_i, oInt_b, oInt_i, lg7, lg7919, lg104729, lg60, oMax, oMin, beqS, fChain, fIfC, fZ, itZ, oEqL, argsB] <;> first | rfl | exact ⟨rfl, rfl⟩ | omega | decide))) rfl
/-- one part of an expression, by its form -/
def partF (e : PyData → Bool) (form : String) (x : PyData) : Bool := match form with
  | "expression" => e x
  | "arguments" => argsB e x
  | "kind" => kindO x
  | "sign" => signB x
  | "num" => numB x
  | _ => nameB x
theorem part_expr {n : Nat} {k : Int} {e : PyData → Bool} (hE : ∀ x, (fs (n + 1)).is_expression [B.v x, B.v (.int k)] = some (.bool (e x), [])) (d : PyData) : (fs (n + 2)).is_part [B.v (.str "expression"), B.v d, B.v (.int k)] = some (.bool (e d), []) := by
  show bodyFn [] 0 (b_is_part (fs (n + 1))) _ = _
  exact xBody rfl (xYes (E1 := [B.v (.str "expression"), B.v d, B.v (.int k)]) (by (simp [szLe, bodyFn, bodyFnL, qSeq, fLst1, fCallL, sOwn, sPar2, sPar3, sSeq, sIf, sRet, sRetN, sNil, sAsg, sApp, sExpr, f1, f2, f1s, f2l, f2r, fV, fC, sSetI, getO, ownL, oIx, atI_0, atI_1, atI_2, ixN, oRel, asB, asI, pNo, fSl, fSls, oSl, oMod, oDiv, oAdd, oSub, oMul, oPow, τN, setE, outs, aNil, aV, aS, fB, fDisp, fCall, resAll, resG, onlyV, slotsG, argB, putB, fIf, fOr, fAnd, fOrV, fAndV, truD, oIs, isTup, isStr, isBool, isInt, isList, oEq, oNe, eqB, scB, itT, itL, itS, vL, cutP_1, cutP_0, cutP_lo, cutP_hi, oLen, oList, oTup, oAbs_i, oInt_b, oInt_i, lg7, lg7919, lg104729, lg60, oMax, oMin, beqS, fChain, fIfC, fZ, itZ, oEqL] <;> first | rfl | exact ⟨rfl, rfl⟩ | omega | decide)) (by (simp [szLe, bodyFn, bodyFnL, qSeq, fLst1, fCallL, sOwn, sPar2, sPar3, sSeq, sIf, sRet, sRetN, sNil, sAsg, sApp, sExpr, f1, f2, f1s, f2l, f2r, fV, fC, sSetI, getO, ownL, oIx, atI_0, atI_1, atI_2, ixN, oRel, asB, asI, pNo, fSl, fSls, oSl, oMod, oDiv, oAdd, oSub, oMul, oPow, τN, setE, outs, aNil, aV, aS, fB, fDisp, fCall, resAll, resG, onlyV, slotsG, argB, putB, fIf, fOr, fAnd, fOrV, fAndV, truD, oIs, isTup, isStr, isBool, isInt, isList, oEq, oNe, eqB, scB, itT, itL, itS, vL, cutP_1, cutP_0, cutP_lo, cutP_hi, oLen, oList, oTup, oAbs_i, oInt_b, oInt_i, lg7, lg7919, lg104729, lg60, oMax, oMin, beqS, fChain, fIfC, fZ, itZ, oEqL, hE] <;> first | rfl | exact ⟨rfl, rfl⟩ | omega | decide))) rfl
theorem part_args {n : Nat} {k : Int} {e : PyData → Bool} (hE : ∀ x, (fs (n + 1)).is_expression [B.v x, B.v (.int k)] = some (.bool (e x), [])) (d : PyData) : (fs (n + 4)).is_part [B.v (.str "arguments"), B.v d, B.v (.int k)] = some (.bool (argsB e d), []) := by
  show bodyFn [] 0 (b_is_part (fs (n + 3))) _ = _
  have A := args_ok hE
  exact xBody rfl (xNo (E1 := [B.v (.str "arguments"), B.v d, B.v (.int k)]) (by (simp [szLe, bodyFn, bodyFnL, qSeq, fLst1, fCallL, sOwn, sPar2, sPar3, sSeq, sIf, sRet, sRetN, sNil, sAsg, sApp, sExpr, f1, f2, f1s, f2l, f2r, fV, fC, sSetI, getO, ownL, oIx, atI_0, atI_1, atI_2, ixN, oRel, asB, asI, pNo, fSl, fSls, oSl, oMod, oDiv, oAdd, oSub, oMul, oPow, τN, setE, outs, aNil, aV, aS, fB, fDisp, fCall, resAll, resG, onlyV, slotsG, argB, putB, fIf, fOr, fAnd, fOrV, fAndV, truD, oIs, isTup, isStr, isBool, isInt, isList, oEq, oNe, eqB, scB, itT, itL, itS, vL, cutP_1, cutP_0, cutP_lo, cutP_hi, oLen, oList, oTup, oAbs_i, oInt_b, oInt_i, lg7, lg7919, lg104729, lg60, oMax, oMin, beqS, fChain, fIfC, fZ, itZ, oEqL] <;> first | rfl | exact ⟨rfl, rfl⟩ | omega | decide)) (xNo (E1 := [B.v (.str "arguments"), B.v d, B.v (.int k)]) (by (simp [szLe, bodyFn, bodyFnL, qSeq, fLst1, fCallL, sOwn, sPar2, sPar3, sSeq, sIf, sRet, sRetN, sNil, sAsg, sApp, sExpr, f1, f2, f1s, f2l, f2r, fV, fC, sSetI, getO, ownL, oIx, atI_0, atI_1, atI_2, ixN, oRel, asB, asI, pNo, fSl, fSls, oSl, oMod, oDiv, oAdd, oSub, oMul, oPow, τN, setE, outs, aNil, aV, aS, fB, fDisp, fCall, resAll, resG, onlyV, slotsG, argB, putB, fIf, fOr, fAnd, fOrV, fAndV, truD, oIs, isTup, isStr, isBool, isInt, isList, oEq, oNe, eqB, scB, itT, itL, itS, vL, cutP_1, cutP_0, cutP_lo, cutP_hi, oLen, oList, oTup, oAbs_i, oInt_b, oInt_i, lg7, lg7919, lg104729, lg60, oMax, oMin, beqS, fChain, fIfC, fZ, itZ, oEqL] <;> first | rfl | exact ⟨rfl, rfl⟩ | omega | decide)) (xYes (E1 := [B.v (.str "arguments"), B.v d, B.v (.int k)]) (by (simp [szLe, bodyFn, bodyFnL, qSeq, fLst1, fCallL, sOwn, sPar2, sPar3, sSeq, sIf, sRet, sRetN, sNil, sAsg, sApp, sExpr, f1, f2, f1s, f2l, f2r, fV, fC, sSetI, getO, ownL, oIx, atI_0, atI_1, atI_2, ixN, oRel, asB, asI, pNo, fSl, fSls, oSl, oMod, oDiv, oAdd, oSub, oMul, oPow, τN, setE, outs, aNil, aV, aS, fB, fDisp, fCall, resAll, resG, onlyV, slotsG, argB, putB, fIf, fOr, fAnd, fOrV, fAndV, truD, oIs, isTup, isStr, isBool, isInt, isList, oEq, oNe, eqB, scB, itT, itL, itS, vL, cutP_1, cutP_0, cutP_lo, cutP_hi, oLen, oList, oTup, oAbs_i, oInt_b, oInt_i, lg7, lg7919, lg104729, lg60, oMax, oMin, beqS, fChain, fIfC, fZ, itZ, oEqL] <;> first | rfl | exact ⟨rfl, rfl⟩ | omega | decide)) (by (simp [szLe, bodyFn, bodyFnL, qSeq, fLst1, fCallL, sOwn, sPar2, sPar3, sSeq, sIf, sRet, sRetN, sNil, sAsg, sApp, sExpr, f1, f2, f1s, f2l, f2r, fV, fC, sSetI, getO, ownL, oIx, atI_0, atI_1, atI_2, ixN, oRel, asB, asI, pNo, fSl, fSls, oSl, oMod, oDiv, oAdd, oSub, oMul, oPow, τN, setE, outs, aNil, aV, aS, fB, fDisp, fCall, resAll, resG, onlyV, slotsG, argB, putB, fIf, fOr, fAnd, fOrV, fAndV, truD, oIs, isTup, isStr, isBool, isInt, isList, oEq, oNe, eqB, scB, itT, itL, itS, vL, cutP_1, cutP_0, cutP_lo, cutP_hi, oLen, oList, oTup, oAbs_i, oInt_b, oInt_i, lg7, lg7919, lg104729, lg60, oMax, oMin, beqS, fChain, fIfC, fZ, itZ, oEqL, A] <;> first | rfl | exact ⟨rfl, rfl⟩ | omega | decide))))) rfl
theorem part_kind {n : Nat} {k : Int} (d : PyData) : (fs (n + 10)).is_part [B.v (.str "kind"), B.v d, B.v (.int k)] = some (.bool (kindO d), []) := by
  show bodyFn [] 0 (b_is_part (fs (n + 9))) _ = _
  have A := (show ∀ d, (fs (n + 9)).is_kind [B.v d] = some (.bool (kindB 6 d), []) from fun d => by rw [Nat.add_comm n 9]; exact is_kind_ok n d)
  exact xBody rfl (xNo (E1 := [B.v (.str "kind"), B.v d, B.v (.int k)]) (by (simp [szLe, bodyFn, bodyFnL, qSeq, fLst1, fCallL, sOwn, sPar2, sPar3, sSeq, sIf, sRet, sRetN, sNil, sAsg, sApp, sExpr, f1, f2, f1s, f2l, f2r, fV, fC, sSetI, getO, ownL, oIx, atI_0, atI_1, atI_2, ixN, oRel, asB, asI, pNo, fSl, fSls, oSl, oMod, oDiv, oAdd, oSub, oMul, oPow, τN, setE, outs, aNil, aV, aS, fB, fDisp, fCall, resAll, resG, onlyV, slotsG, argB, putB, fIf, fOr, fAnd, fOrV, fAndV, truD, oIs, isTup, isStr, isBool, isInt, isList, oEq, oNe, eqB, scB, itT, itL, itS, vL, cutP_1, cutP_0, cutP_lo, cutP_hi, oLen, oList, oTup, oAbs_i, oInt_b, oInt_i, lg7, lg7919, lg104729, lg60, oMax, oMin, beqS, fChain, fIfC, fZ, itZ, oEqL] <;> first | rfl | exact ⟨rfl, rfl⟩ | omega | decide)) (xNo (E1 := [B.v (.str "kind"), B.v d, B.v (.int k)]) (by (simp [szLe, bodyFn, bodyFnL, qSeq, fLst1, fCallL, sOwn, sPar2, sPar3, sSeq, sIf, sRet, sRetN, sNil, sAsg, sApp, sExpr, f1, f2, f1s, f2l, f2r, fV, fC, sSetI, getO, ownL, oIx, atI_0, atI_1, atI_2, ixN, oRel, asB, asI, pNo, fSl, fSls, oSl, oMod, oDiv, oAdd, oSub, oMul, oPow, τN, setE, outs, aNil, aV, aS, fB, fDisp, fCall, resAll, resG, onlyV, slotsG, argB, putB, fIf, fOr, fAnd, fOrV, fAndV, truD, oIs, isTup, isStr, isBool, isInt, isList, oEq, oNe, eqB, scB, itT, itL, itS, vL, cutP_1, cutP_0, cutP_lo, cutP_hi, oLen, oList, oTup, oAbs_i, oInt_b, oInt_i, lg7, lg7919, lg104729, lg60, oMax, oMin, beqS, fChain, fIfC, fZ, itZ, oEqL] <;> first | rfl | exact ⟨rfl, rfl⟩ | omega | decide)) (xNo (E1 := [B.v (.str "kind"), B.v d, B.v (.int k)]) (by (simp [szLe, bodyFn, bodyFnL, qSeq, fLst1, fCallL, sOwn, sPar2, sPar3, sSeq, sIf, sRet, sRetN, sNil, sAsg, sApp, sExpr, f1, f2, f1s, f2l, f2r, fV, fC, sSetI, getO, ownL, oIx, atI_0, atI_1, atI_2, ixN, oRel, asB, asI, pNo, fSl, fSls, oSl, oMod, oDiv, oAdd, oSub, oMul, oPow, τN, setE, outs, aNil, aV, aS, fB, fDisp, fCall, resAll, resG, onlyV, slotsG, argB, putB, fIf, fOr, fAnd, fOrV, fAndV, truD, oIs, isTup, isStr, isBool, isInt, isList, oEq, oNe, eqB, scB, itT, itL, itS, vL, cutP_1, cutP_0, cutP_lo, cutP_hi, oLen, oList, oTup, oAbs_i, oInt_b, oInt_i, lg7, lg7919, lg104729, lg60, oMax, oMin, beqS, fChain, fIfC, fZ, itZ, oEqL] <;> first | rfl | exact ⟨rfl, rfl⟩ | omega | decide)) (xYes (E1 := [B.v (.str "kind"), B.v d, B.v (.int k)]) (E2 := [B.v (.str "kind"), B.v d, B.v (.int k)]) (by (simp [szLe, bodyFn, bodyFnL, qSeq, fLst1, fCallL, sOwn, sPar2, sPar3, sSeq, sIf, sRet, sRetN, sNil, sAsg, sApp, sExpr, f1, f2, f1s, f2l, f2r, fV, fC, sSetI, getO, ownL, oIx, atI_0, atI_1, atI_2, ixN, oRel, asB, asI, pNo, fSl, fSls, oSl, oMod, oDiv, oAdd, oSub, oMul, oPow, τN, setE, outs, aNil, aV, aS, fB, fDisp, fCall, resAll, resG, onlyV, slotsG, argB, putB, fIf, fOr, fAnd, fOrV, fAndV, truD, oIs, isTup, isStr, isBool, isInt, isList, oEq, oNe, eqB, scB, itT, itL, itS, vL, cutP_1, cutP_0, cutP_lo, cutP_hi, oLen, oList, oTup, oAbs_i, oInt_b, oInt_i, lg7, lg7919, lg104729, lg60, oMax, oMin, beqS, fChain, fIfC, fZ, itZ, oEqL] <;> first | rfl | exact ⟨rfl, rfl⟩ | omega | decide)) (by cases d <;> (simp [szLe, bodyFn, bodyFnL, qSeq, fLst1, fCallL, sOwn, sPar2, sPar3, sSeq, sIf, sRet, sRetN, sNil, sAsg, sApp, sExpr, f1, f2, f1s, f2l, f2r, fV, fC, sSetI, getO, ownL, oIx, atI_0, atI_1, atI_2, ixN, oRel, asB, asI, pNo, fSl, fSls, oSl, oMod, oDiv, oAdd, oSub, oMul, oPow, τN, setE, outs, aNil, aV, aS, fB, fDisp, fCall, resAll, resG, onlyV, slotsG, argB, putB, fIf, fOr, fAnd, fOrV, fAndV, truD, oIs, isTup, isStr, isBool, isInt, isList, oEq, oNe, eqB, scB, itT, itL, itS, vL, cutP_1, cutP_0, cutP_lo, cutP_hi, oLen, oList, oTup, oAbs_i, oInt_b, oInt_i, lg7, lg7919, lg104729, lg60, oMax, oMin, beqS, fChain, fIfC, fZ, itZ, oEqL, A, oIsN, isNon, kindO] <;> first | rfl | exact ⟨rfl, rfl⟩ | omega | decide)))))) rfl
theorem part_sign {n : Nat} {k : Int} (d : PyData) : (fs (n + 2)).is_part [B.v (.str "sign"), B.v d, B.v (.int k)] = some (.bool (signB d), []) := by
  show bodyFn [] 0 (b_is_part (fs (n + 1))) _ = _
  have A := sign_isok n
  exact xBody rfl (xNo (E1 := [B.v (.str "sign"), B.v d, B.v (.int k)]) (by (simp [szLe, bodyFn, bodyFnL, qSeq, fLst1, fCallL, sOwn, sPar2, sPar3, sSeq, sIf, sRet, sRetN, sNil, sAsg, sApp, sExpr, f1, f2, f1s, f2l, f2r, fV, fC, sSetI, getO, ownL, oIx, atI_0, atI_1, atI_2, ixN, oRel, asB, asI, pNo, fSl, fSls, oSl, oMod, oDiv, oAdd, oSub, oMul, oPow, τN, setE, outs, aNil, aV, aS, fB, fDisp, fCall, resAll, resG, onlyV, slotsG, argB, putB, fIf, fOr, fAnd, fOrV, fAndV, truD, oIs, isTup, isStr, isBool, isInt, isList, oEq, oNe, eqB, scB, itT, itL, itS, vL, cutP_1, cutP_0, cutP_lo, cutP_hi, oLen, oList, oTup, oAbs_i, oInt_b, oInt_i, lg7, lg7919, lg104729, lg60, oMax, oMin, beqS, fChain, fIfC, fZ, itZ, oEqL] <;> first | rfl | exact ⟨rfl, rfl⟩ | omega | decide)) (xNo (E1 := [B.v (.str "sign"), B.v d, B.v (.int k)]) (by (simp [szLe, bodyFn, bodyFnL, qSeq, fLst1, fCallL, sOwn, sPar2, sPar3, sSeq, sIf, sRet, sRetN, sNil, sAsg, sApp, sExpr, f1, f2, f1s, f2l, f2r, fV, fC, sSetI, getO, ownL, oIx, atI_0, atI_1, atI_2, ixN, oRel, asB, asI, pNo, fSl, fSls, oSl, oMod, oDiv, oAdd, oSub, oMul, oPow, τN, setE, outs, aNil, aV, aS, fB, fDisp, fCall, resAll, resG, onlyV, slotsG, argB, putB, fIf, fOr, fAnd, fOrV, fAndV, truD, oIs, isTup, isStr, isBool, isInt, isList, oEq, oNe, eqB, scB, itT, itL, itS, vL, cutP_1, cutP_0, cutP_lo, cutP_hi, oLen, oList, oTup, oAbs_i, oInt_b, oInt_i, lg7, lg7919, lg104729, lg60, oMax, oMin, beqS, fChain, fIfC, fZ, itZ, oEqL] <;> first | rfl | exact ⟨rfl, rfl⟩ | omega | decide)) (xNo (E1 := [B.v (.str "sign"), B.v d, B.v (.int k)]) (by (simp [szLe, bodyFn, bodyFnL, qSeq, fLst1, fCallL, sOwn, sPar2, sPar3, sSeq, sIf, sRet, sRetN, sNil, sAsg, sApp, sExpr, f1, f2, f1s, f2l, f2r, fV, fC, sSetI, getO, ownL, oIx, atI_0, atI_1, atI_2, ixN, oRel, asB, asI, pNo, fSl, fSls, oSl, oMod, oDiv, oAdd, oSub, oMul, oPow, τN, setE, outs, aNil, aV, aS, fB, fDisp, fCall, resAll, resG, onlyV, slotsG, argB, putB, fIf, fOr, fAnd, fOrV, fAndV, truD, oIs, isTup, isStr, isBool, isInt, isList, oEq, oNe, eqB, scB, itT, itL, itS, vL, cutP_1, cutP_0, cutP_lo, cutP_hi, oLen, oList, oTup, oAbs_i, oInt_b, oInt_i, lg7, lg7919, lg104729, lg60, oMax, oMin, beqS, fChain, fIfC, fZ, itZ, oEqL] <;> first | rfl | exact ⟨rfl, rfl⟩ | omega | decide)) (xNo (E1 := [B.v (.str "sign"), B.v d, B.v (.int k)]) (by (simp [szLe, bodyFn, bodyFnL, qSeq, fLst1, fCallL, sOwn, sPar2, sPar3, sSeq, sIf, sRet, sRetN, sNil, sAsg, sApp, sExpr, f1, f2, f1s, f2l, f2r, fV, fC, sSetI, getO, ownL, oIx, atI_0, atI_1, atI_2, ixN, oRel, asB, asI, pNo, fSl, fSls, oSl, oMod, oDiv, oAdd, oSub, oMul, oPow, τN, setE, outs, aNil, aV, aS, fB, fDisp, fCall, resAll, resG, onlyV, slotsG, argB, putB, fIf, fOr, fAnd, fOrV, fAndV, truD, oIs, isTup, isStr, isBool, isInt, isList, oEq, oNe, eqB, scB, itT, itL, itS, vL, cutP_1, cutP_0, cutP_lo, cutP_hi, oLen, oList, oTup, oAbs_i, oInt_b, oInt_i, lg7, lg7919, lg104729, lg60, oMax, oMin, beqS, fChain, fIfC, fZ, itZ, oEqL] <;> first | rfl | exact ⟨rfl, rfl⟩ | omega | decide)) (xYes (E1 := [B.v (.str "sign"), B.v d, B.v (.int k)]) (by (simp [szLe, bodyFn, bodyFnL, qSeq, fLst1, fCallL, sOwn, sPar2, sPar3, sSeq, sIf, sRet, sRetN, sNil, sAsg, sApp, sExpr, f1, f2, f1s, f2l, f2r, fV, fC, sSetI, getO, ownL, oIx, atI_0, atI_1, atI_2, ixN, oRel, asB, asI, pNo, fSl, fSls, oSl, oMod, oDiv, oAdd, oSub, oMul, oPow, τN, setE, outs, aNil, aV, aS, fB, fDisp, fCall, resAll, resG, onlyV, slotsG, argB, putB, fIf, fOr, fAnd, fOrV, fAndV, truD, oIs, isTup, isStr, isBool, isInt, isList, oEq, oNe, eqB, scB, itT, itL, itS, vL, cutP_1, cutP_0, cutP_lo, cutP_hi, oLen, oList, oTup, oAbs_i, oInt_b, oInt_i, lg7, lg7919, lg104729, lg60, oMax, oMin, beqS, fChain, fIfC, fZ, itZ, oEqL] <;> first | rfl | exact ⟨rfl, rfl⟩ | omega | decide)) (by (simp [szLe, bodyFn, bodyFnL, qSeq, fLst1, fCallL, sOwn, sPar2, sPar3, sSeq, sIf, sRet, sRetN, sNil, sAsg, sApp, sExpr, f1, f2, f1s, f2l, f2r, fV, fC, sSetI, getO, ownL, oIx, atI_0, atI_1, atI_2, ixN, oRel, asB, asI, pNo, fSl, fSls, oSl, oMod, oDiv, oAdd, oSub, oMul, oPow, τN, setE, outs, aNil, aV, aS, fB, fDisp, fCall, resAll, resG, onlyV, slotsG, argB, putB, fIf, fOr, fAnd, fOrV, fAndV, truD, oIs, isTup, isStr, isBool, isInt, isList, oEq, oNe, eqB, scB, itT, itL, itS, vL, cutP_1, cutP_0, cutP_lo, cutP_hi, oLen, oList, oTup, oAbs_i, oInt_b, oInt_i, lg7, lg7919, lg104729, lg60, oMax, oMin, beqS, fChain, fIfC, fZ, itZ, oEqL, A] <;> first | rfl | exact ⟨rfl, rfl⟩ | omega | decide))))))) rfl

theorem part_num {n : Nat} {k : Int} (d : PyData) : (fs (n + 3)).is_part [B.v (.str "num"), B.v d, B.v (.int k)] = some (.bool (numB d), []) := by
  show bodyFn [] 0 (b_is_part (fs (n + 2))) _ = _
  have A := num_isok n
  exact xBody (E' := [B.v (.str "num"), B.v d, B.v (.int k)]) rfl (xNo (E1 := [B.v (.str "num"), B.v d, B.v (.int k)]) (by (simp [szLe, bodyFn, bodyFnL, qSeq, fLst1, fCallL, sOwn, sPar2, sPar3, sSeq, sIf, sRet, sRetN, sNil, sAsg, sApp, sExpr, f1, f2, f1s, f2l, f2r, fV, fC, sSetI, getO, ownL, oIx, atI_0, atI_1, atI_2, ixN, oRel, asB, asI, pNo, fSl, fSls, oSl, oMod, oDiv, oAdd, oSub, oMul, oPow, τN, setE, outs, aNil, aV, aS, fB, fDisp, fCall, resAll, resG, onlyV, slotsG, argB, putB, fIf, fOr, fAnd, fOrV, fAndV, truD, oIs, isTup, isStr, isBool, isInt, isList, oEq, oNe, eqB, scB, itT, itL, itS, vL, cutP_1, cutP_0, cutP_lo, cutP_hi, oLen, oList, oTup, oAbs_i, oInt_b, oInt_i, lg7, lg7919, lg104729, lg60, oMax, oMin, beqS, fChain, fIfC, fZ, itZ, oEqL] <;> first | rfl | exact ⟨rfl, rfl⟩ | omega | decide)) (xNo (E1 := [B.v (.str "num"), B.v d, B.v (.int k)]) (by (simp [szLe, bodyFn, bodyFnL, qSeq, fLst1, fCallL, sOwn, sPar2, sPar3, sSeq, sIf, sRet, sRetN, sNil, sAsg, sApp, sExpr, f1, f2, f1s, f2l, f2r, fV, fC, sSetI, getO, ownL, oIx, atI_0, atI_1, atI_2, ixN, oRel, asB, asI, pNo, fSl, fSls, oSl, oMod, oDiv, oAdd, oSub, oMul, oPow, τN, setE, outs, aNil, aV, aS, fB, fDisp, fCall, resAll, resG, onlyV, slotsG, argB, putB, fIf, fOr, fAnd, fOrV, fAndV, truD, oIs, isTup, isStr, isBool, isInt, isList, oEq, oNe, eqB, scB, itT, itL, itS, vL, cutP_1, cutP_0, cutP_lo, cutP_hi, oLen, oList, oTup, oAbs_i, oInt_b, oInt_i, lg7, lg7919, lg104729, lg60, oMax, oMin, beqS, fChain, fIfC, fZ, itZ, oEqL] <;> first | rfl | exact ⟨rfl, rfl⟩ | omega | decide)) (xNo (E1 := [B.v (.str "num"), B.v d, B.v (.int k)]) (by (simp [szLe, bodyFn, bodyFnL, qSeq, fLst1, fCallL, sOwn, sPar2, sPar3, sSeq, sIf, sRet, sRetN, sNil, sAsg, sApp, sExpr, f1, f2, f1s, f2l, f2r, fV, fC, sSetI, getO, ownL, oIx, atI_0, atI_1, atI_2, ixN, oRel, asB, asI, pNo, fSl, fSls, oSl, oMod, oDiv, oAdd, oSub, oMul, oPow, τN, setE, outs, aNil, aV, aS, fB, fDisp, fCall, resAll, resG, onlyV, slotsG, argB, putB, fIf, fOr, fAnd, fOrV, fAndV, truD, oIs, isTup, isStr, isBool, isInt, isList, oEq, oNe, eqB, scB, itT, itL, itS, vL, cutP_1, cutP_0, cutP_lo, cutP_hi, oLen, oList, oTup, oAbs_i, oInt_b, oInt_i, lg7, lg7919, lg104729, lg60, oMax, oMin, beqS, fChain, fIfC, fZ, itZ, oEqL] <;> first | rfl | exact ⟨rfl, rfl⟩ | omega | decide)) (xNo (E1 := [B.v (.str "num"), B.v d, B.v (.int k)]) (by (simp [szLe, bodyFn, bodyFnL, qSeq, fLst1, fCallL, sOwn, sPar2, sPar3, sSeq, sIf, sRet, sRetN, sNil, sAsg, sApp, sExpr, f1, f2, f1s, f2l, f2r, fV, fC, sSetI, getO, ownL, oIx, atI_0, atI_1, atI_2, ixN, oRel, asB, asI, pNo, fSl, fSls, oSl, oMod, oDiv, oAdd, oSub, oMul, oPow, τN, setE, outs, aNil, aV, aS, fB, fDisp, fCall, resAll, resG, onlyV, slotsG, argB, putB, fIf, fOr, fAnd, fOrV, fAndV, truD, oIs, isTup, isStr, isBool, isInt, isList, oEq, oNe, eqB, scB, itT, itL, itS, vL, cutP_1, cutP_0, cutP_lo, cutP_hi, oLen, oList, oTup, oAbs_i, oInt_b, oInt_i, lg7, lg7919, lg104729, lg60, oMax, oMin, beqS, fChain, fIfC, fZ, itZ, oEqL] <;> first | rfl | exact ⟨rfl, rfl⟩ | omega | decide)) (xNo (E1 := [B.v (.str "num"), B.v d, B.v (.int k)]) (by (simp [szLe, bodyFn, bodyFnL, qSeq, fLst1, fCallL, sOwn, sPar2, sPar3, sSeq, sIf, sRet, sRetN, sNil, sAsg, sApp, sExpr, f1, f2, f1s, f2l, f2r, fV, fC, sSetI, getO, ownL, oIx, atI_0, atI_1, atI_2, ixN, oRel, asB, asI, pNo, fSl, fSls, oSl, oMod, oDiv, oAdd, oSub, oMul, oPow, τN, setE, outs, aNil, aV, aS, fB, fDisp, fCall, resAll, resG, onlyV, slotsG, argB, putB, fIf, fOr, fAnd, fOrV, fAndV, truD, oIs, isTup, isStr, isBool, isInt, isList, oEq, oNe, eqB, scB, itT, itL, itS, vL, cutP_1, cutP_0, cutP_lo, cutP_hi, oLen, oList, oTup, oAbs_i, oInt_b, oInt_i, lg7, lg7919, lg104729, lg60, oMax, oMin, beqS, fChain, fIfC, fZ, itZ, oEqL] <;> first | rfl | exact ⟨rfl, rfl⟩ | omega | decide)) (by (simp [szLe, bodyFn, bodyFnL, qSeq, fLst1, fCallL, sOwn, sPar2, sPar3, sSeq, sIf, sRet, sRetN, sNil, sAsg, sApp, sExpr, f1, f2, f1s, f2l, f2r, fV, fC, sSetI, getO, ownL, oIx, atI_0, atI_1, atI_2, ixN, oRel, asB, asI, pNo, fSl, fSls, oSl, oMod, oDiv, oAdd, oSub, oMul, oPow, τN, setE, outs, aNil, aV, aS, fB, fDisp, fCall, resAll, resG, onlyV, slotsG, argB, putB, fIf, fOr, fAnd, fOrV, fAndV, truD, oIs, isTup, isStr, isBool, isInt, isList, oEq, oNe, eqB, scB, itT, itL, itS, vL, cutP_1, cutP_0, cutP_lo, cutP_hi, oLen, oList, oTup, oAbs_i, oInt_b, oInt_i, lg7, lg7919, lg104729, lg60, oMax, oMin, beqS, fChain, fIfC, fZ, itZ, oEqL, A] <;> first | rfl | exact ⟨rfl, rfl⟩ | omega | decide))))))) rfl
theorem part_name {n : Nat} {k : Int} (d : PyData) : (fs (n + 2)).is_part [B.v (.str "name"), B.v d, B.v (.int k)] = some (.bool (nameB d), []) := by
  show bodyFn [] 0 (b_is_part (fs (n + 1))) _ = _
  have A := name_isok n
  have ne : ¬ (Str.ofString "name" = Str.ofString "num") := by decide
  exact xBody (E' := [B.v (.str "name"), B.v d, B.v (.int k)]) rfl (xNo (E1 := [B.v (.str "name"), B.v d, B.v (.int k)]) (by (simp [szLe, bodyFn, bodyFnL, qSeq, fLst1, fCallL, sOwn, sPar2, sPar3, sSeq, sIf, sRet, sRetN, sNil, sAsg, sApp, sExpr, f1, f2, f1s, f2l, f2r, fV, fC, sSetI, getO, ownL, oIx, atI_0, atI_1, atI_2, ixN, oRel, asB, asI, pNo, fSl, fSls, oSl, oMod, oDiv, oAdd, oSub, oMul, oPow, τN, setE, outs, aNil, aV, aS, fB, fDisp, fCall, resAll, resG, onlyV, slotsG, argB, putB, fIf, fOr, fAnd, fOrV, fAndV, truD, oIs, isTup, isStr, isBool, isInt, isList, oEq, oNe, eqB, scB, itT, itL, itS, vL, cutP_1, cutP_0, cutP_lo, cutP_hi, oLen, oList, oTup, oAbs_i, oInt_b, oInt_i, lg7, lg7919, lg104729, lg60, oMax, oMin, beqS, fChain, fIfC, fZ, itZ, oEqL] <;> first | rfl | exact ⟨rfl, rfl⟩ | omega | decide)) (xNo (E1 := [B.v (.str "name"), B.v d, B.v (.int k)]) (by (simp [szLe, bodyFn, bodyFnL, qSeq, fLst1, fCallL, sOwn, sPar2, sPar3, sSeq, sIf, sRet, sRetN, sNil, sAsg, sApp, sExpr, f1, f2, f1s, f2l, f2r, fV, fC, sSetI, getO, ownL, oIx, atI_0, atI_1, atI_2, ixN, oRel, asB, asI, pNo, fSl, fSls, oSl, oMod, oDiv, oAdd, oSub, oMul, oPow, τN, setE, outs, aNil, aV, aS, fB, fDisp, fCall, resAll, resG, onlyV, slotsG, argB, putB, fIf, fOr, fAnd, fOrV, fAndV, truD, oIs, isTup, isStr, isBool, isInt, isList, oEq, oNe, eqB, scB, itT, itL, itS, vL, cutP_1, cutP_0, cutP_lo, cutP_hi, oLen, oList, oTup, oAbs_i, oInt_b, oInt_i, lg7, lg7919, lg104729, lg60, oMax, oMin, beqS, fChain, fIfC, fZ, itZ, oEqL] <;> first | rfl | exact ⟨rfl, rfl⟩ | omega | decide)) (xNo (E1 := [B.v (.str "name"), B.v d, B.v (.int k)]) (by (simp [szLe, bodyFn, bodyFnL, qSeq, fLst1, fCallL, sOwn, sPar2, sPar3, sSeq, sIf, sRet, sRetN, sNil, sAsg, sApp, sExpr, f1, f2, f1s, f2l, f2r, fV, fC, sSetI, getO, ownL, oIx, atI_0, atI_1, atI_2, ixN, oRel, asB, asI, pNo, fSl, fSls, oSl, oMod, oDiv, oAdd, oSub, oMul, oPow, τN, setE, outs, aNil, aV, aS, fB, fDisp, fCall, resAll, resG, onlyV, slotsG, argB, putB, fIf, fOr, fAnd, fOrV, fAndV, truD, oIs, isTup, isStr, isBool, isInt, isList, oEq, oNe, eqB, scB, itT, itL, itS, vL, cutP_1, cutP_0, cutP_lo, cutP_hi, oLen, oList, oTup, oAbs_i, oInt_b, oInt_i, lg7, lg7919, lg104729, lg60, oMax, oMin, beqS, fChain, fIfC, fZ, itZ, oEqL] <;> first | rfl | exact ⟨rfl, rfl⟩ | omega | decide)) (xNo (E1 := [B.v (.str "name"), B.v d, B.v (.int k)]) (by (simp [szLe, bodyFn, bodyFnL, qSeq, fLst1, fCallL, sOwn, sPar2, sPar3, sSeq, sIf, sRet, sRetN, sNil, sAsg, sApp, sExpr, f1, f2, f1s, f2l, f2r, fV, fC, sSetI, getO, ownL, oIx, atI_0, atI_1, atI_2, ixN, oRel, asB, asI, pNo, fSl, fSls, oSl, oMod, oDiv, oAdd, oSub, oMul, oPow, τN, setE, outs, aNil, aV, aS, fB, fDisp, fCall, resAll, resG, onlyV, slotsG, argB, putB, fIf, fOr, fAnd, fOrV, fAndV, truD, oIs, isTup, isStr, isBool, isInt, isList, oEq, oNe, eqB, scB, itT, itL, itS, vL, cutP_1, cutP_0, cutP_lo, cutP_hi, oLen, oList, oTup, oAbs_i, oInt_b, oInt_i, lg7, lg7919, lg104729, lg60, oMax, oMin, beqS, fChain, fIfC, fZ, itZ, oEqL] <;> first | rfl | exact ⟨rfl, rfl⟩ | omega | decide)) (xNo (E1 := [B.v (.str "name"), B.v d, B.v (.int k)]) (by (simp [szLe, bodyFn, bodyFnL, qSeq, fLst1, fCallL, sOwn, sPar2, sPar3, sSeq, sIf, sRet, sRetN, sNil, sAsg, sApp, sExpr, f1, f2, f1s, f2l, f2r, fV, fC, sSetI, getO, ownL, oIx, atI_0, atI_1, atI_2, ixN, oRel, asB, asI, pNo, fSl, fSls, oSl, oMod, oDiv, oAdd, oSub, oMul, oPow, τN, setE, outs, aNil, aV, aS, fB, fDisp, fCall, resAll, resG, onlyV, slotsG, argB, putB, fIf, fOr, fAnd, fOrV, fAndV, truD, oIs, isTup, isStr, isBool, isInt, isList, oEq, oNe, eqB, scB, itT, itL, itS, vL, cutP_1, cutP_0, cutP_lo, cutP_hi, oLen, oList, oTup, oAbs_i, oInt_b, oInt_i, lg7, lg7919, lg104729, lg60, oMax, oMin, beqS, fChain, fIfC, fZ, itZ, oEqL] <;> first | rfl | exact ⟨rfl, rfl⟩ | omega | decide)) (by (simp [szLe, bodyFn, bodyFnL, qSeq, fLst1, fCallL, sOwn, sPar2, sPar3, sSeq, sIf, sRet, sRetN, sNil, sAsg, sApp, sExpr, f1, f2, f1s, f2l, f2r, fV, fC, sSetI, getO, ownL, oIx, atI_0, atI_1, atI_2, ixN, oRel, asB, asI, pNo, fSl, fSls, oSl, oMod, oDiv, oAdd, oSub, oMul, oPow, τN, setE, outs, aNil, aV, aS, fB, fDisp, fCall, resAll, resG, onlyV, slotsG, argB, putB, fIf, fOr, fAnd, fOrV, fAndV, truD, oIs, isTup, isStr, isBool, isInt, isList, oEq, oNe, eqB, scB, itT, itL, itS, vL, cutP_1, cutP_0, cutP_lo, cutP_hi, oLen, oList, oTup, oAbs_i, oInt_b, oInt_i, lg7, lg7919, lg104729, lg60, oMax, oMin, beqS, fChain, fIfC, fZ, itZ, oEqL, A, ne] <;> first | rfl | exact ⟨rfl, rfl⟩ | omega | decide))))))) rfl

def exprS (e : PyData → Bool) : PyData → Bool
  | .tuple (.str w :: xs) => exprF e w xs
  | _ => false
/-- the parts' list of an expression whose word and length fit -/
theorem parts_ok {n : Nat} {k : Int} {w : Str} {xs fms : List PyData} {F : Fs} (g : PyData → PyData → Bool) (hl : tblLook t_EXPRESSIONS w = some (.tuple fms))
    (hp : ∀ f x, PyData.tuple [f, x] ∈ List.zipWith (fun x y => PyData.tuple [x, y]) fms xs → F.is_part [B.v f, B.v x, B.v (.int k)] = some (.bool (g f x), [])) :
    fLc [3, 4] (fZ itZ (aV (f1 (oIxT t_EXPRESSIONS) (fV 2)) (aV (fSl (fV 0) (f1 asI (fC (.int 1))) pNo) aNil))) (τT 2 (τCons (τN 3) (τCons (τN 4) τNil))) gYes (fCall [] F.is_part (aV (fV 3) (aV (fV 4) (aV (f2 oSub (fV 1) (fC (.int 1))) aNil)))) [B.v (.tuple (.str w :: xs)), B.v (.int (k + 1)), B.v (.str w), B.u, B.u]
      = some ((List.zipWith (fun x y => PyData.tuple [x, y]) fms xs).map (fun d => match d with | .tuple [f, x] => .bool (g f x) | _ => .none), [B.v (.tuple (.str w :: xs)), B.v (.int (k + 1)), B.v (.str w), B.u, B.u]) := by
  refine fLc_pure (E1 := [B.v (.tuple (.str w :: xs)), B.v (.int (k + 1)), B.v (.str w), B.u, B.u]) (Ew := [B.v (.tuple (.str w :: xs)), B.v (.int (k + 1)), B.v (.str w), B.u, B.u]) _ ?_ rfl rfl rfl fun d hd => ?_
  · have hl' : oIxT t_EXPRESSIONS (.str w) = some (.tuple fms) := hl
    (simp [szLe, bodyFn, bodyFnL, qSeq, fLst1, fCallL, sOwn, sPar2, sPar3, sSeq, sIf, sRet, sRetN, sNil, sAsg, sApp, sExpr, f1, f2, f1s, f2l, f2r, fV, fC, sSetI, getO, ownL, oIx, atI_0, atI_1, atI_2, ixN, oRel, asB, asI, pNo, fSl, fSls, oSl, oMod, oDiv, oAdd, oSub, oMul, oPow, τN, setE, outs, aNil, aV, aS, fB, fDisp, fCall, resAll, resG, onlyV, slotsG, argB, putB, fIf, fOr, fAnd, fOrV, fAndV, truD, oIs, isTup, isStr, isBool, isInt, isList, oEq, oNe, eqB, scB, itT, itL, itS, vL, cutP_1, cutP_0, cutP_lo, cutP_hi, oLen, oList, oTup, oAbs_i, oInt_b, oInt_i, lg7, lg7919, lg104729, lg60, oMax, oMin, beqS, fChain, fIfC, fZ, itZ, oEqL, hl'] <;> first | rfl | exact ⟨rfl, rfl⟩ | omega | decide)
  · obtain ⟨f, x, rfl⟩ : ∃ f x, d = PyData.tuple [f, x] := by
      obtain ⟨i, hi, e⟩ := List.mem_iff_getElem.mp hd
      rw [List.getElem_zipWith] at e
      exact ⟨_, _, e.symm⟩
    have P := hp f x hd
    have e1 : k + 1 - 1 = k := by omega
    exact ⟨[(3, f), (4, x)], [B.v (.tuple (.str w :: xs)), B.v (.int (k + 1)), B.v (.str w), B.v f, B.v x], rfl, by (simp [szLe, bodyFn, bodyFnL, qSeq, fLst1, fCallL, sOwn, sPar2, sPar3, sSeq, sIf, sRet, sRetN, sNil, sAsg, sApp, sExpr, f1, f2, f1s, f2l, f2r, fV, fC, sSetI, getO, ownL, oIx, atI_0, atI_1, atI_2, ixN, oRel, asB, asI, pNo, fSl, fSls, oSl, oMod, oDiv, oAdd, oSub, oMul, oPow, τN, setE, outs, aNil, aV, aS, fB, fDisp, fCall, resAll, resG, onlyV, slotsG, argB, putB, fIf, fOr, fAnd, fOrV, fAndV, truD, oIs, isTup, isStr, isBool, isInt, isList, oEq, oNe, eqB, scB, itT, itL, itS, vL, cutP_1, cutP_0, cutP_lo, cutP_hi, oLen, oList, oTup, oAbs_i, oInt_b, oInt_i, lg7, lg7919, lg104729, lg60, oMax, oMin, beqS, fChain, fIfC, fZ, itZ, oEqL, P, e1] <;> first | rfl | exact ⟨rfl, rfl⟩ | omega | decide), rfl⟩

theorem allB_zip (g : PyData → PyData → Bool) : ∀ (fms xs : List PyData), allB (List.zipWith (fun f x => PyData.bool (g f x)) fms xs) = some (List.zipWith g fms xs)
  | [], _ => by simp [allB]
  | _ :: _, [] => by simp [allB]
  | f :: fms, x :: xs => by
    have ih := allB_zip g fms xs
    show (some (g f x)).bind (fun b => (allB _).map fun bs => b :: bs) = _
    rw [ih]
    rfl
theorem expr_look {m : Nat} {k : Int} (hk : 0 ≤ k) {w : Str} {xs fms : List PyData} (g : PyData → PyData → Bool) (hl : tblLook t_EXPRESSIONS w = some (.tuple fms))
    (hp : ∀ f x, PyData.tuple [f, x] ∈ List.zipWith (fun x y => PyData.tuple [x, y]) fms xs → (fs (m + 1)).is_part [B.v f, B.v x, B.v (.int k)] = some (.bool (g f x), [])) :
    (fs (m + 2)).is_expression [B.v (.tuple (.str w :: xs)), B.v (.int (k + 1))] = some (.bool (decide (xs.length = fms.length) && (List.zipWith g fms xs).all id), []) := by
  show bodyFn [] 3 (b_is_expression (fs (m + 1))) _ = _
  have Fw : (fs (m + 1)).first_word [B.v (.tuple (.str w :: xs))] = some (.str w, []) := first_ok m _
  have L := parts_ok (n := 0) (k := k) (w := w) (xs := xs) (F := fs (m + 1)) g hl hp
  have hI : oInT t_EXPRESSIONS not (.str w) = some (.bool false) := by simp [oInT, hl]
  have hX : oIxT t_EXPRESSIONS (.str w) = some (.tuple fms) := by simp [oIxT, hl]
  have e0 : ¬ (k + 1 = 0) := by omega
  have AZ := allB_zip g fms xs
  by_cases h : xs.length = fms.length
  · have h' : ((xs.length : Int) + 1 = 1 + (fms.length : Int)) := by omega
    exact xBody rfl (xSeq (E1 := [B.v (.tuple (.str w :: xs)), B.v (.int (k + 1)), B.v (.str w), B.u, B.u]) (by (simp [szLe, bodyFn, bodyFnL, qSeq, fLst1, fCallL, sOwn, sPar2, sPar3, sSeq, sIf, sRet, sRetN, sNil, sAsg, sApp, sExpr, f1, f2, f1s, f2l, f2r, fV, fC, sSetI, getO, ownL, oIx, atI_0, atI_1, atI_2, ixN, oRel, asB, asI, pNo, fSl, fSls, oSl, oMod, oDiv, oAdd, oSub, oMul, oPow, τN, setE, outs, aNil, aV, aS, fB, fDisp, fCall, resAll, resG, onlyV, slotsG, argB, putB, fIf, fOr, fAnd, fOrV, fAndV, truD, oIs, isTup, isStr, isBool, isInt, isList, oEq, oNe, eqB, scB, itT, itL, itS, vL, cutP_1, cutP_0, cutP_lo, cutP_hi, oLen, oList, oTup, oAbs_i, oInt_b, oInt_i, lg7, lg7919, lg104729, lg60, oMax, oMin, beqS, fChain, fIfC, fZ, itZ, oEqL, Fw] <;> first | rfl | exact ⟨rfl, rfl⟩ | omega | decide)) (xNo (E1 := [B.v (.tuple (.str w :: xs)), B.v (.int (k + 1)), B.v (.str w), B.u, B.u]) (by (simp [szLe, bodyFn, bodyFnL, qSeq, fLst1, fCallL, sOwn, sPar2, sPar3, sSeq, sIf, sRet, sRetN, sNil, sAsg, sApp, sExpr, f1, f2, f1s, f2l, f2r, fV, fC, sSetI, getO, ownL, oIx, atI_0, atI_1, atI_2, ixN, oRel, asB, asI, pNo, fSl, fSls, oSl, oMod, oDiv, oAdd, oSub, oMul, oPow, τN, setE, outs, aNil, aV, aS, fB, fDisp, fCall, resAll, resG, onlyV, slotsG, argB, putB, fIf, fOr, fAnd, fOrV, fAndV, truD, oIs, isTup, isStr, isBool, isInt, isList, oEq, oNe, eqB, scB, itT, itL, itS, vL, cutP_1, cutP_0, cutP_lo, cutP_hi, oLen, oList, oTup, oAbs_i, oInt_b, oInt_i, lg7, lg7919, lg104729, lg60, oMax, oMin, beqS, fChain, fIfC, fZ, itZ, oEqL, e0, hI, hX, h'] <;> first | rfl | exact ⟨rfl, rfl⟩ | omega | decide)) (by (simp [szLe, bodyFn, bodyFnL, qSeq, fLst1, fCallL, sOwn, sPar2, sPar3, sSeq, sIf, sRet, sRetN, sNil, sAsg, sApp, sExpr, f1, f2, f1s, f2l, f2r, fV, fC, sSetI, getO, ownL, oIx, atI_0, atI_1, atI_2, ixN, oRel, asB, asI, pNo, fSl, fSls, oSl, oMod, oDiv, oAdd, oSub, oMul, oPow, τN, setE, outs, aNil, aV, aS, fB, fDisp, fCall, resAll, resG, onlyV, slotsG, argB, putB, fIf, fOr, fAnd, fOrV, fAndV, truD, oIs, isTup, isStr, isBool, isInt, isList, oEq, oNe, eqB, scB, itT, itL, itS, vL, cutP_1, cutP_0, cutP_lo, cutP_hi, oLen, oList, oTup, oAbs_i, oInt_b, oInt_i, lg7, lg7919, lg104729, lg60, oMax, oMin, beqS, fChain, fIfC, fZ, itZ, oEqL, L, oAll, AZ, h] <;> first | rfl | exact ⟨rfl, rfl⟩ | omega | decide)))) rfl
  · have h' : ¬ ((xs.length : Int) + 1 = 1 + (fms.length : Int)) := by omega
    exact xBody rfl (xSeq (E1 := [B.v (.tuple (.str w :: xs)), B.v (.int (k + 1)), B.v (.str w), B.u, B.u]) (by (simp [szLe, bodyFn, bodyFnL, qSeq, fLst1, fCallL, sOwn, sPar2, sPar3, sSeq, sIf, sRet, sRetN, sNil, sAsg, sApp, sExpr, f1, f2, f1s, f2l, f2r, fV, fC, sSetI, getO, ownL, oIx, atI_0, atI_1, atI_2, ixN, oRel, asB, asI, pNo, fSl, fSls, oSl, oMod, oDiv, oAdd, oSub, oMul, oPow, τN, setE, outs, aNil, aV, aS, fB, fDisp, fCall, resAll, resG, onlyV, slotsG, argB, putB, fIf, fOr, fAnd, fOrV, fAndV, truD, oIs, isTup, isStr, isBool, isInt, isList, oEq, oNe, eqB, scB, itT, itL, itS, vL, cutP_1, cutP_0, cutP_lo, cutP_hi, oLen, oList, oTup, oAbs_i, oInt_b, oInt_i, lg7, lg7919, lg104729, lg60, oMax, oMin, beqS, fChain, fIfC, fZ, itZ, oEqL, Fw] <;> first | rfl | exact ⟨rfl, rfl⟩ | omega | decide)) (xYes (E1 := [B.v (.tuple (.str w :: xs)), B.v (.int (k + 1)), B.v (.str w), B.u, B.u]) (by (simp [szLe, bodyFn, bodyFnL, qSeq, fLst1, fCallL, sOwn, sPar2, sPar3, sSeq, sIf, sRet, sRetN, sNil, sAsg, sApp, sExpr, f1, f2, f1s, f2l, f2r, fV, fC, sSetI, getO, ownL, oIx, atI_0, atI_1, atI_2, ixN, oRel, asB, asI, pNo, fSl, fSls, oSl, oMod, oDiv, oAdd, oSub, oMul, oPow, τN, setE, outs, aNil, aV, aS, fB, fDisp, fCall, resAll, resG, onlyV, slotsG, argB, putB, fIf, fOr, fAnd, fOrV, fAndV, truD, oIs, isTup, isStr, isBool, isInt, isList, oEq, oNe, eqB, scB, itT, itL, itS, vL, cutP_1, cutP_0, cutP_lo, cutP_hi, oLen, oList, oTup, oAbs_i, oInt_b, oInt_i, lg7, lg7919, lg104729, lg60, oMax, oMin, beqS, fChain, fIfC, fZ, itZ, oEqL, e0, hI, hX, h'] <;> first | rfl | exact ⟨rfl, rfl⟩ | omega | decide)) (by (simp [szLe, bodyFn, bodyFnL, qSeq, fLst1, fCallL, sOwn, sPar2, sPar3, sSeq, sIf, sRet, sRetN, sNil, sAsg, sApp, sExpr, f1, f2, f1s, f2l, f2r, fV, fC, sSetI, getO, ownL, oIx, atI_0, atI_1, atI_2, ixN, oRel, asB, asI, pNo, fSl, fSls, oSl, oMod, oDiv, oAdd, oSub, oMul, oPow, τN, setE, outs, aNil, aV, aS, fB, fDisp, fCall, resAll, resG, onlyV, slotsG, argB, putB, fIf, fOr, fAnd, fOrV, fAndV, truD, oIs, isTup, isStr, isBool, isInt, isList, oEq, oNe, eqB, scB, itT, itL, itS, vL, cutP_1, cutP_0, cutP_lo, cutP_hi, oLen, oList, oTup, oAbs_i, oInt_b, oInt_i, lg7, lg7919, lg104729, lg60, oMax, oMin, beqS, fChain, fIfC, fZ, itZ, oEqL, h] <;> first | rfl | exact ⟨rfl, rfl⟩ | omega | decide)))) rfl

theorem expr_zero {m : Nat} (d : PyData) : (fs (m + 2)).is_expression [B.v d, B.v (.int 0)] = some (.bool false, []) := by
  show bodyFn [] 3 (b_is_expression (fs (m + 1))) _ = _
  have Fw := first_ok m d
  exact xBody rfl (xSeq (E1 := [B.v d, B.v (.int 0), B.v (.str (fw d)), B.u, B.u]) (by (simp [szLe, bodyFn, bodyFnL, qSeq, fLst1, fCallL, sOwn, sPar2, sPar3, sSeq, sIf, sRet, sRetN, sNil, sAsg, sApp, sExpr, f1, f2, f1s, f2l, f2r, fV, fC, sSetI, getO, ownL, oIx, atI_0, atI_1, atI_2, ixN, oRel, asB, asI, pNo, fSl, fSls, oSl, oMod, oDiv, oAdd, oSub, oMul, oPow, τN, setE, outs, aNil, aV, aS, fB, fDisp, fCall, resAll, resG, onlyV, slotsG, argB, putB, fIf, fOr, fAnd, fOrV, fAndV, truD, oIs, isTup, isStr, isBool, isInt, isList, oEq, oNe, eqB, scB, itT, itL, itS, vL, cutP_1, cutP_0, cutP_lo, cutP_hi, oLen, oList, oTup, oAbs_i, oInt_b, oInt_i, lg7, lg7919, lg104729, lg60, oMax, oMin, beqS, fChain, fIfC, fZ, itZ, oEqL, Fw] <;> first | rfl | exact ⟨rfl, rfl⟩ | omega | decide)) (xYes (E1 := [B.v d, B.v (.int 0), B.v (.str (fw d)), B.u, B.u]) (by (simp [szLe, bodyFn, bodyFnL, qSeq, fLst1, fCallL, sOwn, sPar2, sPar3, sSeq, sIf, sRet, sRetN, sNil, sAsg, sApp, sExpr, f1, f2, f1s, f2l, f2r, fV, fC, sSetI, getO, ownL, oIx, atI_0, atI_1, atI_2, ixN, oRel, asB, asI, pNo, fSl, fSls, oSl, oMod, oDiv, oAdd, oSub, oMul, oPow, τN, setE, outs, aNil, aV, aS, fB, fDisp, fCall, resAll, resG, onlyV, slotsG, argB, putB, fIf, fOr, fAnd, fOrV, fAndV, truD, oIs, isTup, isStr, isBool, isInt, isList, oEq, oNe, eqB, scB, itT, itL, itS, vL, cutP_1, cutP_0, cutP_lo, cutP_hi, oLen, oList, oTup, oAbs_i, oInt_b, oInt_i, lg7, lg7919, lg104729, lg60, oMax, oMin, beqS, fChain, fIfC, fZ, itZ, oEqL] <;> first | rfl | exact ⟨rfl, rfl⟩ | omega | decide)) (by (simp [szLe, bodyFn, bodyFnL, qSeq, fLst1, fCallL, sOwn, sPar2, sPar3, sSeq, sIf, sRet, sRetN, sNil, sAsg, sApp, sExpr, f1, f2, f1s, f2l, f2r, fV, fC, sSetI, getO, ownL, oIx, atI_0, atI_1, atI_2, ixN, oRel, asB, asI, pNo, fSl, fSls, oSl, oMod, oDiv, oAdd, oSub, oMul, oPow, τN, setE, outs, aNil, aV, aS, fB, fDisp, fCall, resAll, resG, onlyV, slotsG, argB, putB, fIf, fOr, fAnd, fOrV, fAndV, truD, oIs, isTup, isStr, isBool, isInt, isList, oEq, oNe, eqB, scB, itT, itL, itS, vL, cutP_1, cutP_0, cutP_lo, cutP_hi, oLen, oList, oTup, oAbs_i, oInt_b, oInt_i, lg7, lg7919, lg104729, lg60, oMax, oMin, beqS, fChain, fIfC, fZ, itZ, oEqL] <;> first | rfl | exact ⟨rfl, rfl⟩ | omega | decide)))) rfl
theorem expr_no {m : Nat} {k : Int} (hk : 0 ≤ k) {d : PyData} (hl : tblLook t_EXPRESSIONS (fw d) = none) : (fs (m + 2)).is_expression [B.v d, B.v (.int (k + 1))] = some (.bool false, []) := by
  show bodyFn [] 3 (b_is_expression (fs (m + 1))) _ = _
  have Fw := first_ok m d
  have e0 : ¬ (k + 1 = 0) := by omega
  have hI : oInT t_EXPRESSIONS not (.str (fw d)) = some (.bool true) := by simp [oInT, hl]
  exact xBody rfl (xSeq (E1 := [B.v d, B.v (.int (k + 1)), B.v (.str (fw d)), B.u, B.u]) (by (simp [szLe, bodyFn, bodyFnL, qSeq, fLst1, fCallL, sOwn, sPar2, sPar3, sSeq, sIf, sRet, sRetN, sNil, sAsg, sApp, sExpr, f1, f2, f1s, f2l, f2r, fV, fC, sSetI, getO, ownL, oIx, atI_0, atI_1, atI_2, ixN, oRel, asB, asI, pNo, fSl, fSls, oSl, oMod, oDiv, oAdd, oSub, oMul, oPow, τN, setE, outs, aNil, aV, aS, fB, fDisp, fCall, resAll, resG, onlyV, slotsG, argB, putB, fIf, fOr, fAnd, fOrV, fAndV, truD, oIs, isTup, isStr, isBool, isInt, isList, oEq, oNe, eqB, scB, itT, itL, itS, vL, cutP_1, cutP_0, cutP_lo, cutP_hi, oLen, oList, oTup, oAbs_i, oInt_b, oInt_i, lg7, lg7919, lg104729, lg60, oMax, oMin, beqS, fChain, fIfC, fZ, itZ, oEqL, Fw] <;> first | rfl | exact ⟨rfl, rfl⟩ | omega | decide)) (xYes (E1 := [B.v d, B.v (.int (k + 1)), B.v (.str (fw d)), B.u, B.u]) (by (simp [szLe, bodyFn, bodyFnL, qSeq, fLst1, fCallL, sOwn, sPar2, sPar3, sSeq, sIf, sRet, sRetN, sNil, sAsg, sApp, sExpr, f1, f2, f1s, f2l, f2r, fV, fC, sSetI, getO, ownL, oIx, atI_0, atI_1, atI_2, ixN, oRel, asB, asI, pNo, fSl, fSls, oSl, oMod, oDiv, oAdd, oSub, oMul, oPow, τN, setE, outs, aNil, aV, aS, fB, fDisp, fCall, resAll, resG, onlyV, slotsG, argB, putB, fIf, fOr, fAnd, fOrV, fAndV, truD, oIs, isTup, isStr, isBool, isInt, isList, oEq, oNe, eqB, scB, itT, itL, itS, vL, cutP_1, cutP_0, cutP_lo, cutP_hi, oLen, oList, oTup, oAbs_i, oInt_b, oInt_i, lg7, lg7919, lg104729, lg60, oMax, oMin, beqS, fChain, fIfC, fZ, itZ, oEqL, e0, hI] <;> first | rfl | exact ⟨rfl, rfl⟩ | omega | decide)) (by (simp [szLe, bodyFn, bodyFnL, qSeq, fLst1, fCallL, sOwn, sPar2, sPar3, sSeq, sIf, sRet, sRetN, sNil, sAsg, sApp, sExpr, f1, f2, f1s, f2l, f2r, fV, fC, sSetI, getO, ownL, oIx, atI_0, atI_1, atI_2, ixN, oRel, asB, asI, pNo, fSl, fSls, oSl, oMod, oDiv, oAdd, oSub, oMul, oPow, τN, setE, outs, aNil, aV, aS, fB, fDisp, fCall, resAll, resG, onlyV, slotsG, argB, putB, fIf, fOr, fAnd, fOrV, fAndV, truD, oIs, isTup, isStr, isBool, isInt, isList, oEq, oNe, eqB, scB, itT, itL, itS, vL, cutP_1, cutP_0, cutP_lo, cutP_hi, oLen, oList, oTup, oAbs_i, oInt_b, oInt_i, lg7, lg7919, lg104729, lg60, oMax, oMin, beqS, fChain, fIfC, fZ, itZ, oEqL] <;> first | rfl | exact ⟨rfl, rfl⟩ | omega | decide)))) rfl

def formsAll : List PyData := [.str "expression", .str "arguments", .str "kind", .str "sign", .str "num", .str "name"]
def partG (e : PyData → Bool) : PyData → PyData → Bool
  | .str s, x => if s = ("expression" : Str) then e x else if s = ("arguments" : Str) then argsB e x else if s = ("kind" : Str) then kindO x else if s = ("sign" : Str) then signB x else if s = ("num" : Str) then numB x else nameB x
  | _, _ => false
theorem zip_fst {f x : PyData} : ∀ {fms xs : List PyData}, PyData.tuple [f, x] ∈ List.zipWith (fun x y => PyData.tuple [x, y]) fms xs → f ∈ fms
  | [], _, h => by simp at h
  | _ :: _, [], h => by simp at h
  | g :: fms, y :: xs, h => by
    rw [List.zipWith_cons_cons] at h
    rcases List.mem_cons.mp h with h | h
    · cases h; exact List.mem_cons_self
    · exact List.mem_cons_of_mem _ (zip_fst h)
/-- an expression one deeper -/
theorem expr_step {n : Nat} {k : Int} (hk : 0 ≤ k) {e : PyData → Bool} (hE : ∀ j x, (fs (n + 1 + j)).is_expression [B.v x, B.v (.int k)] = some (.bool (e x), [])) (j : Nat) (d : PyData) :
    (fs (n + 12 + j)).is_expression [B.v d, B.v (.int (k + 1))] = some (.bool (exprS e d), []) := by
  have hE9 : ∀ x, (fs (n + 9 + j + 1)).is_expression [B.v x, B.v (.int k)] = some (.bool (e x), []) := fun x => by
    have h := hE (9 + j) x
    rwa [show n + 1 + (9 + j) = n + 9 + j + 1 by omega] at h
  have pE : ∀ x, (fs (n + 10 + j + 1)).is_part [B.v (.str "expression"), B.v x, B.v (.int k)] = some (.bool (e x), []) := fun x => by
    have h := part_expr hE9 x
    rwa [show n + 9 + j + 2 = n + 10 + j + 1 by omega] at h
  have hE7 : ∀ x, (fs (n + 7 + j + 1)).is_expression [B.v x, B.v (.int k)] = some (.bool (e x), []) := fun x => by
    have h := hE (7 + j) x
    rwa [show n + 1 + (7 + j) = n + 7 + j + 1 by omega] at h
  have pA : ∀ x, (fs (n + 10 + j + 1)).is_part [B.v (.str "arguments"), B.v x, B.v (.int k)] = some (.bool (argsB e x), []) := fun x => by
    have h := part_args hE7 x
    rwa [show n + 7 + j + 4 = n + 10 + j + 1 by omega] at h
  have pK : ∀ x, (fs (n + 10 + j + 1)).is_part [B.v (.str "kind"), B.v x, B.v (.int k)] = some (.bool (kindO x), []) := fun x => by
    rw [show n + 10 + j + 1 = (n + 1 + j) + 10 by omega]; exact part_kind x
  have pS : ∀ x, (fs (n + 10 + j + 1)).is_part [B.v (.str "sign"), B.v x, B.v (.int k)] = some (.bool (signB x), []) := fun x => by
    rw [show n + 10 + j + 1 = (n + 9 + j) + 2 by omega]; exact part_sign x
  have pU : ∀ x, (fs (n + 10 + j + 1)).is_part [B.v (.str "num"), B.v x, B.v (.int k)] = some (.bool (numB x), []) := fun x => by
    rw [show n + 10 + j + 1 = (n + 8 + j) + 3 by omega]; exact part_num x
  have pN : ∀ x, (fs (n + 10 + j + 1)).is_part [B.v (.str "name"), B.v x, B.v (.int k)] = some (.bool (nameB x), []) := fun x => by
    rw [show n + 10 + j + 1 = (n + 9 + j) + 2 by omega]; exact part_name x
  rw [show n + 12 + j = (n + 10 + j) + 2 by omega]
  have pAll : ∀ f, f ∈ formsAll → ∀ x, (fs (n + 10 + j + 1)).is_part [B.v f, B.v x, B.v (.int k)] = some (.bool (partG e f x), []) := fun f hf x => by
    simp only [formsAll, List.mem_cons, List.not_mem_nil, or_false] at hf
    rcases hf with rfl | rfl | rfl | rfl | rfl | rfl
    · exact pE x
    · exact pA x
    · exact pK x
    · exact pS x
    · exact pU x
    · exact pN x
  have go : ∀ (w : Str) (xs fms : List PyData), tblLook t_EXPRESSIONS w = some (.tuple fms) → (∀ f ∈ fms, f ∈ formsAll) → (decide (xs.length = fms.length) && (List.zipWith (partG e) fms xs).all id) = exprF e w xs →
      (fs (n + 10 + j + 2)).is_expression [B.v (.tuple (.str w :: xs)), B.v (.int (k + 1))] = some (.bool (exprS e (.tuple (.str w :: xs))), []) := fun w xs fms hl hf he => by
    rw [show exprS e (.tuple (.str w :: xs)) = exprF e w xs from rfl, ← he]
    exact expr_look (m := n + 10 + j) hk (partG e) hl fun f x hz => pAll f (hf f (zip_fst hz)) x
  cases d with
  | tuple ys =>
    cases ys with
    | nil => exact expr_no (m := n + 10 + j) hk rfl
    | cons y xs =>
      cases y with
      | str w =>
        by_cases h1 : w = ("num" : Str)
        · subst h1; exact go _ xs [.str "num"] rfl (by simp [formsAll]) (by rcases xs with _ | ⟨a, _ | ⟨b, _ | ⟨c, _ | ⟨d, r⟩⟩⟩⟩ <;> simp (decide := true) [partG, exprF])
        by_cases h2 : w = ("name" : Str)
        · subst h2; exact go _ xs [.str "name"] rfl (by simp [formsAll]) (by rcases xs with _ | ⟨a, _ | ⟨b, _ | ⟨c, _ | ⟨d, r⟩⟩⟩⟩ <;> simp (decide := true) [partG, exprF])
        by_cases h3 : w = ("see" : Str)
        · subst h3; exact go _ xs [.str "name"] rfl (by simp [formsAll]) (by rcases xs with _ | ⟨a, _ | ⟨b, _ | ⟨c, _ | ⟨d, r⟩⟩⟩⟩ <;> simp (decide := true) [partG, exprF])
        by_cases h4 : w = ("peek" : Str)
        · subst h4; exact go _ xs [.str "name"] rfl (by simp [formsAll]) (by rcases xs with _ | ⟨a, _ | ⟨b, _ | ⟨c, _ | ⟨d, r⟩⟩⟩⟩ <;> simp (decide := true) [partG, exprF])
        by_cases h5 : w = ("box" : Str)
        · subst h5; exact go _ xs [.str "expression"] rfl (by simp [formsAll]) (by rcases xs with _ | ⟨a, _ | ⟨b, _ | ⟨c, _ | ⟨d, r⟩⟩⟩⟩ <;> simp (decide := true) [partG, exprF])
        by_cases h6 : w = ("unbox" : Str)
        · subst h6; exact go _ xs [.str "expression"] rfl (by simp [formsAll]) (by rcases xs with _ | ⟨a, _ | ⟨b, _ | ⟨c, _ | ⟨d, r⟩⟩⟩⟩ <;> simp (decide := true) [partG, exprF])
        by_cases h7 : w = ("loose" : Str)
        · subst h7; exact go _ xs [.str "expression"] rfl (by simp [formsAll]) (by rcases xs with _ | ⟨a, _ | ⟨b, _ | ⟨c, _ | ⟨d, r⟩⟩⟩⟩ <;> simp (decide := true) [partG, exprF])
        by_cases h8 : w = ("op" : Str)
        · subst h8; exact go _ xs [.str "sign", .str "expression", .str "expression"] rfl (by simp [formsAll]) (by rcases xs with _ | ⟨a, _ | ⟨b, _ | ⟨c, _ | ⟨d, r⟩⟩⟩⟩ <;> simp (decide := true) [partG, exprF])
        by_cases h9 : w = ("pair" : Str)
        · subst h9; exact go _ xs [.str "expression", .str "expression"] rfl (by simp [formsAll]) (by rcases xs with _ | ⟨a, _ | ⟨b, _ | ⟨c, _ | ⟨d, r⟩⟩⟩⟩ <;> simp (decide := true) [partG, exprF])
        by_cases h10 : w = ("call" : Str)
        · subst h10; exact go _ xs [.str "name", .str "kind", .str "arguments"] rfl (by simp [formsAll]) (by rcases xs with _ | ⟨a, _ | ⟨b, _ | ⟨c, _ | ⟨d, r⟩⟩⟩⟩ <;> simp (decide := true) [partG, exprF])
        rw [show exprS e (.tuple (.str w :: xs)) = false by simp [exprS, exprF, h1, h2, h3, h4, h5, h6, h7, h8, h9, h10]]
        exact expr_no (m := n + 10 + j) hk (by show tblLook t_EXPRESSIONS w = none; simp [tblLook, t_EXPRESSIONS, Ne.symm h1, Ne.symm h2, Ne.symm h3, Ne.symm h4, Ne.symm h5, Ne.symm h6, Ne.symm h7, Ne.symm h8, Ne.symm h9, Ne.symm h10])
      | _ => exact expr_no (m := n + 10 + j) hk rfl
  | _ => exact expr_no (m := n + 10 + j) hk rfl

theorem fsN {N c : Nat} (h : c + 1 ≤ N) : ∃ n, N = n + 1 ∧ c ≤ n := ⟨N - 1, by omega, by omega⟩
theorem lg40 {i : Int} (h0 : 0 ≤ i) (h : i ≤ 2 ^ 40) : i.natAbs.log2 < 9000 :=
  Nat.lt_of_lt_of_le (log2_lt (k := 41) (by decide) (by omega)) (by decide)
theorem take_r {N k : Nat} {m : M} {many : Int} {Q : PyData → Env' → Prop} (hN : 1 ≤ N) (h : Hd (k + 1) m) (hm : 0 < many) (hb : many ≤ 2 ^ 40)
    (q : ∀ i m', 0 ≤ i → i < many → Hd k m' → Q (.int i) [B.o m']) : wc (fs N).law_take [B.o m, B.v (.int many)] Q := by
  obtain ⟨n, rfl, _⟩ := fsN (c := 0) hN
  obtain ⟨i, m', e, h1, h2, h3⟩ := take_ok (n := n) h hm (lg40 (by omega) hb)
  rw [wc_eq e]
  exact q i m' h1 h2 h3
theorem of_r {N k : Nat} {m : M} {xs : List PyData} {Q : PyData → Env' → Prop} (hN : 2 ≤ N) (h : Hd (k + 1) m) (h0 : 0 < xs.length) (hb : xs.length < 2 ^ 30)
    (q : ∀ d m', d ∈ xs → Hd k m' → Q d [B.o m']) : wc (fs N).law_of [B.o m, B.v (.list xs)] Q := by
  obtain ⟨n, rfl, hn⟩ := fsN (c := 1) hN
  obtain ⟨n, rfl, _⟩ := fsN (c := 0) hn
  obtain ⟨d, hd, m', e, h3⟩ := of_ok (n := n) h h0 hb
  rw [wc_eq e]
  exact q d m' hd h3
theorem sgn_len (z : Str) : (sgn z).length = z.length := by
  unfold sgn
  rw [List.length_map, Array.length_toList]
  rfl
theorem ofs_r {N k : Nat} {m : M} {z : Str} {Q : PyData → Env' → Prop} (hN : 2 ≤ N) (h : Hd (k + 1) m) (h0 : 0 < z.length) (hb : z.length < 2 ^ 30)
    (q : ∀ d m', d ∈ sgn z → Hd k m' → Q d [B.o m']) : wc (fs N).law_of [B.o m, B.v (.str z)] Q := by
  obtain ⟨n, rfl, hn⟩ := fsN (c := 1) hN
  show wc (bodyFn [0] 0 (b_law_of (fs n))) _ _
  unfold b_law_of
  simp only [↓kW, kP, String.reduceEq, Nat.reduceAdd, Nat.reduceSub, Nat.reduceMul, Nat.reducePow, Nat.reduceLT, Nat.reduceLeDiff, Nat.reduceEqDiff, Int.reduceAdd, Int.reduceSub, Int.reduceMul, Int.reduceNeg, Int.reducePow, Int.reduceLT, Int.reduceLE, Int.reduceEq, Int.reduceAbs, Int.reduceToNat, reduceCtorEq]
  refine take_r (many := (z.length : Int)) hn h (by omega) (by omega) fun i m' h1 h2 h3 => ?_
  have hl : z.cps.toList.length = z.length := Array.length_toList
  obtain ⟨x, hx, e2, _⟩ := atI_in (xs := z.cps.toList) h1 (by rw [hl]; exact h2)
  simp only [↓kW, kP, String.reduceEq, Nat.reduceAdd, Nat.reduceSub, Nat.reduceMul, Nat.reducePow, Nat.reduceLT, Nat.reduceLeDiff, Nat.reduceEqDiff, Int.reduceAdd, Int.reduceSub, Int.reduceMul, Int.reduceNeg, Int.reducePow, Int.reduceLT, Int.reduceLE, Int.reduceEq, Int.reduceAbs, Int.reduceToNat, reduceCtorEq, e2]
  exact q _ _ (List.mem_map.mpr ⟨x, hx, rfl⟩) h3

def ch1 (c : Nat) : PyData := .str ⟨#[c]⟩
theorem sgn_ch (z : Str) : sgn z = z.cps.toList.map ch1 := rfl
theorem allS_ch : ∀ cs : List Nat, allS (cs.map ch1) = some (cs.map fun c => ⟨#[c]⟩)
  | [] => rfl
  | c :: cs => by
    show (allS (cs.map ch1)).map _ = _
    rw [allS_ch cs]
    rfl
theorem app_cps (x y : Str) : (x ++ y).cps = x.cps ++ y.cps := rfl
theorem join_ch : ∀ cs : List Nat, Str.join ("" : Str) (cs.map fun c => ⟨#[c]⟩) = ⟨cs.toArray⟩
  | [] => rfl
  | [c] => rfl
  | c :: d :: cs => by
    have ih := join_ch (d :: cs)
    show (⟨#[c]⟩ : Str) ++ ("" : Str) ++ Str.join ("" : Str) ((d :: cs).map fun c => ⟨#[c]⟩) = _
    rw [ih]
    show (⟨(#[c] ++ #[]) ++ (d :: cs).toArray⟩ : Str) = ⟨(c :: d :: cs).toArray⟩
    congr 1
    simp
theorem oJoin_ch {cs : List Nat} (h : cs.length ≤ 1000000) : oJoin [.str "", .list (cs.map ch1)] = some (.str ⟨cs.toArray⟩) := by
  have e : Txt.join ("" : Str) (cs.map fun c => ⟨#[c]⟩) = ⟨cs.toArray⟩ := (StrLaws.glued_eq_join _ _).trans (join_ch cs)
  show (allS (cs.map ch1)).bind _ = _
  rw [allS_ch]
  show (if ((cs.map fun c => (⟨#[c]⟩ : Str)).map (·.length)).sum + (cs.map fun c => (⟨#[c]⟩ : Str)).length * ("" : Str).length ≤ 16777216 ∧ (Txt.join ("" : Str) (cs.map fun c => ⟨#[c]⟩)).length ≤ sizeLine then some (PyData.str (Txt.join ("" : Str) (cs.map fun c => ⟨#[c]⟩))) else none) = _
  rw [e, if_pos]
  have e1 : ∀ cs : List Nat, ((cs.map fun c => (⟨#[c]⟩ : Str)).map (·.length)).sum = cs.length := fun cs => by
    induction cs with
    | nil => rfl
    | cons c cs ih => rw [List.map_cons, List.map_cons, List.sum_cons, ih, List.length_cons]; show 1 + _ = _; omega
  rw [e1]
  refine ⟨?_, ?_⟩
  · show cs.length + _ * 0 ≤ _; omega
  · show cs.toArray.size ≤ sizeLine
    rw [List.size_toArray, szLe]; omega
theorem ch_of {xs : List PyData} {z : Str} (h : ∀ x ∈ xs, x ∈ sgn z) : ∃ cs : List Nat, xs = cs.map ch1 ∧ ∀ c ∈ cs, c ∈ z.cps.toList := by
  induction xs with
  | nil => exact ⟨[], rfl, fun _ h => (List.not_mem_nil h).elim⟩
  | cons x xs ih =>
    obtain ⟨cs, e, hc⟩ := ih fun x hx => h x (List.mem_cons_of_mem _ hx)
    obtain ⟨c, h1, h2⟩ := List.mem_map.mp (h x List.mem_cons_self)
    refine ⟨c :: cs, by rw [e, ← h2]; rfl, fun d hd => ?_⟩
    rcases List.mem_cons.mp hd with e | hd
    · rw [e]; exact h1
    · exact hc d hd
theorem len_rng' (lo : Int) (n : Nat) : (rngD lo n).length = n := by simp [rngD]
theorem itR_0 {n : Int} (h0 : 0 ≤ n) (h1 : n ≤ 1000000) : itR 0 n = some (rngD 0 n.toNat) := by
  unfold itR
  rw [if_pos ⟨by decide, by decide, by omega, by omega, by rw [szLe]; omega⟩, Int.sub_zero]
def kwF : PyData → Bool
  | .str z => (nameB (.str (cutS z none (some 5) ++ ("q" : Str))) && decide ((cutS z none (some 5)).length + ("q" : Str).length ≤ 16777216)) || !(abcB z)
  | _ => false
theorem kwQ : kwS.all kwF = true := by decide +kernel
theorem name_r {N k : Nat} {m : M} {Q : PyData → Env' → Prop} (hN : 4 ≤ N) (h : Hd (k + 7) m) (q : ∀ z m', nameB (.str z) = true → Hd k m' → Q (.str z) [B.o m']) : wc (fs N).law_name [B.o m] Q := by
  obtain ⟨n, rfl, hn⟩ := fsN (c := 3) hN
  show wc (bodyFn [0] 3 (b_law_name (fs n))) _ _
  unfold b_law_name
  simp only [↓kW, kP, String.reduceEq, Nat.reduceAdd, Nat.reduceSub, Nat.reduceMul, Nat.reducePow, Nat.reduceLT, Nat.reduceLeDiff, Nat.reduceEqDiff, Int.reduceAdd, Int.reduceSub, Int.reduceMul, Int.reduceNeg, Int.reducePow, Int.reduceLT, Int.reduceLE, Int.reduceEq, Int.reduceAbs, Int.reduceToNat, reduceCtorEq]
  refine of_r (k := k + 6) (by omega) h (by decide) (by decide) fun d m1 hd h1 => ?_
  obtain ⟨l, rfl, l0, l6⟩ : ∃ l : Nat, d = .int l ∧ 1 ≤ l ∧ l ≤ 6 := by
    simp only [List.mem_cons, List.not_mem_nil, or_false] at hd
    rcases hd with rfl | rfl | rfl | rfl | rfl | rfl
    · exact ⟨1, rfl, by decide, by decide⟩
    · exact ⟨1, rfl, by decide, by decide⟩
    · exact ⟨2, rfl, by decide, by decide⟩
    · exact ⟨3, rfl, by decide, by decide⟩
    · exact ⟨5, rfl, by decide, by decide⟩
    · exact ⟨6, rfl, by decide, by decide⟩
  simp only [↓kW, kP, String.reduceEq, Nat.reduceAdd, Nat.reduceSub, Nat.reduceMul, Nat.reducePow, Nat.reduceLT, Nat.reduceLeDiff, Nat.reduceEqDiff, Int.reduceAdd, Int.reduceSub, Int.reduceMul, Int.reduceNeg, Int.reducePow, Int.reduceLT, Int.reduceLE, Int.reduceEq, Int.reduceAbs, Int.reduceToNat, reduceCtorEq]
  refine we_lcI (fun j E => ∃ m', E = [B.o m', B.v (.int l), B.u, B.u] ∧ Hd (k + j) m') (fun x => x ∈ sgn abc) ?_
  simp only [↓kW, kP, String.reduceEq, Nat.reduceAdd, Nat.reduceSub, Nat.reduceMul, Nat.reducePow, Nat.reduceLT, Nat.reduceLeDiff, Nat.reduceEqDiff, Int.reduceAdd, Int.reduceSub, Int.reduceMul, Int.reduceNeg, Int.reducePow, Int.reduceLT, Int.reduceLE, Int.reduceEq, Int.reduceAbs, Int.reduceToNat, reduceCtorEq, itR_0 (n := (l : Int)) (by omega) (by omega)]
  refine ⟨⟨m1, rfl, h1.less (by rw [len_rng']; omega)⟩, ?_, ?_⟩
  · rintro d hd j E ⟨m2, rfl, h2⟩
    simp only [↓kW, kP, String.reduceEq, Nat.reduceAdd, Nat.reduceSub, Nat.reduceMul, Nat.reducePow, Nat.reduceLT, Nat.reduceLeDiff, Nat.reduceEqDiff, Int.reduceAdd, Int.reduceSub, Int.reduceMul, Int.reduceNeg, Int.reducePow, Int.reduceLT, Int.reduceLE, Int.reduceEq, Int.reduceAbs, Int.reduceToNat, reduceCtorEq]
    refine ofs_r (k := k + j) (by omega) h2 (by decide) (by decide) fun x m3 hx h3 => ?_
    simp only [↓kW, kP, String.reduceEq, Nat.reduceAdd, Nat.reduceSub, Nat.reduceMul, Nat.reducePow, Nat.reduceLT, Nat.reduceLeDiff, Nat.reduceEqDiff, Int.reduceAdd, Int.reduceSub, Int.reduceMul, Int.reduceNeg, Int.reducePow, Int.reduceLT, Int.reduceLE, Int.reduceEq, Int.reduceAbs, Int.reduceToNat, reduceCtorEq]
    exact ⟨hx, m3, rfl, h3⟩
  · rintro xs E hl hx ⟨m2, rfl, h2⟩
    obtain ⟨cs, rfl, hc⟩ := ch_of hx
    rw [len_rng', List.length_map] at hl
    have lc : cs.length = l := by omega
    have K := kw_ok (n - 1)
    rw [show n - 1 + 1 = n by omega] at K
    simp only [↓kW, kP, String.reduceEq, Nat.reduceAdd, Nat.reduceSub, Nat.reduceMul, Nat.reducePow, Nat.reduceLT, Nat.reduceLeDiff, Nat.reduceEqDiff, Int.reduceAdd, Int.reduceSub, Int.reduceMul, Int.reduceNeg, Int.reducePow, Int.reduceLT, Int.reduceLE, Int.reduceEq, Int.reduceAbs, Int.reduceToNat, reduceCtorEq, oJoin_ch (cs := cs) (by omega), wc_eq K]
    have ab : abcB ⟨cs.toArray⟩ = true := by
      unfold abcB
      rw [List.all_eq_true]
      intro c h
      exact decide_eq_true (hc c (by simpa using h))
    have ln : (⟨cs.toArray⟩ : Str).length = l := lc
    rw [show kwS.all flatP = true from rfl, show (kwS.any fun y => eqF y (.str ⟨cs.toArray⟩)) = kwB ⟨cs.toArray⟩ from rfl]
    cases hk : kwB ⟨cs.toArray⟩ with
    | false =>
      simp only [↓kW, kP, String.reduceEq, Nat.reduceAdd, Nat.reduceSub, Nat.reduceMul, Nat.reducePow, Nat.reduceLT, Nat.reduceLeDiff, Nat.reduceEqDiff, Int.reduceAdd, Int.reduceSub, Int.reduceMul, Int.reduceNeg, Int.reducePow, Int.reduceLT, Int.reduceLE, Int.reduceEq, Int.reduceAbs, Int.reduceToNat, reduceCtorEq]
      exact q _ _ (by simp [nameB, ln, l0, l6, hk, ab]) (h2.less (by omega))
    | true =>
      have hk' := hk
      unfold kwB at hk'
      obtain ⟨y, hy, ey⟩ := List.any_eq_true.mp hk'
      have Y := List.all_eq_true.mp kwQ y hy
      cases y with
      | str w =>
        have ew : ⟨cs.toArray⟩ = w := by simpa [k_eqF_str_str] using ey
        rw [← ew] at Y
        simp only [kwF, ab, Bool.not_true, Bool.or_false, Bool.and_eq_true, decide_eq_true_eq] at Y
        simp only [↓kW, kP, String.reduceEq, Nat.reduceAdd, Nat.reduceSub, Nat.reduceMul, Nat.reducePow, Nat.reduceLT, Nat.reduceLeDiff, Nat.reduceEqDiff, Int.reduceAdd, Int.reduceSub, Int.reduceMul, Int.reduceNeg, Int.reducePow, Int.reduceLT, Int.reduceLE, Int.reduceEq, Int.reduceAbs, Int.reduceToNat, reduceCtorEq, Y.2]
        exact q _ _ Y.1 (h2.less (by omega))
      | _ => simp [eqF] at ey

theorem kindB_mono : ∀ {n m : Nat} {d : PyData}, n ≤ m → kindB n d = true → kindB m d = true
  | 0, _, d, _, h => by cases d <;> simp [kindB] at h
  | n + 1, 0, _, hm, _ => by omega
  | n + 1, m + 1, .str z, hm, h => h
  | n + 1, m + 1, .tuple [], hm, h => by simp [kindB] at h
  | n + 1, m + 1, .tuple (x :: xs), hm, h => by
    cases x with
    | str w =>
      simp only [kindB, Bool.and_eq_true, List.all_eq_true] at h ⊢
      exact ⟨h.1, fun y hy => kindB_mono (by omega) (h.2 y hy)⟩
    | _ => simp [kindB] at h
  | n + 1, m + 1, .none, _, h => by simp [kindB] at h
  | n + 1, m + 1, .bool _, _, h => by simp [kindB] at h
  | n + 1, m + 1, .int _, _, h => by simp [kindB] at h
  | n + 1, m + 1, .list _, _, h => by simp [kindB] at h
  | n + 1, m + 1, .dict _, _, h => by simp [kindB] at h
theorem kind_r : ∀ (deep N k : Nat) (m : M) (Q : PyData → Env' → Prop), 1 ≤ deep → deep + 3 ≤ N → Hd (k + 2 * deep) m → (∀ d m', kindB deep d = true → Hd k m' → Q d [B.o m']) → wc (fs N).law_kind [B.o m, B.v (.int deep)] Q
  | 0, N, k, m, Q, h0, _, _, _ => by omega
  | deep + 1, N, k, m, Q, _, hN, h, q => by
    obtain ⟨n, rfl, hn⟩ := fsN (c := deep + 3) (N := N) (by omega)
    show wc (bodyFn [0] 3 (b_law_kind (fs n))) _ _
    unfold b_law_kind
    simp only [↓kW, kP, String.reduceEq, Nat.reduceAdd, Nat.reduceSub, Nat.reduceMul, Nat.reducePow, Nat.reduceLT, Nat.reduceLeDiff, Nat.reduceEqDiff, Int.reduceAdd, Int.reduceSub, Int.reduceMul, Int.reduceNeg, Int.reducePow, Int.reduceLT, Int.reduceLE, Int.reduceEq, Int.reduceAbs, Int.reduceToNat, reduceCtorEq]
    refine take_r (k := k + 2 * deep + 1) (by omega) (h.less (by omega)) (by omega) (by omega) fun i m1 i0 i1 h1 => ?_
    simp only [↓kW, kP, String.reduceEq, Nat.reduceAdd, Nat.reduceSub, Nat.reduceMul, Nat.reducePow, Nat.reduceLT, Nat.reduceLeDiff, Nat.reduceEqDiff, Int.reduceAdd, Int.reduceSub, Int.reduceMul, Int.reduceNeg, Int.reducePow, Int.reduceLT, Int.reduceLE, Int.reduceEq, Int.reduceAbs, Int.reduceToNat, reduceCtorEq]
    refine of_r (k := k + 2 * deep) (by omega) h1 (by decide) (by decide) fun leaf m2 hl h2 => ?_
    have L : ∀ n, kindB (n + 1) leaf = true := fun n => by
      simp only [List.mem_cons, List.not_mem_nil, or_false] at hl
      rcases hl with rfl | rfl | rfl <;> rfl
    simp only [↓kW, kP, String.reduceEq, Nat.reduceAdd, Nat.reduceSub, Nat.reduceMul, Nat.reducePow, Nat.reduceLT, Nat.reduceLeDiff, Nat.reduceEqDiff, Int.reduceAdd, Int.reduceSub, Int.reduceMul, Int.reduceNeg, Int.reducePow, Int.reduceLT, Int.reduceLE, Int.reduceEq, Int.reduceAbs, Int.reduceToNat, reduceCtorEq]
    by_cases c1 : deep = 0
    · subst c1
      simp only [↓kW, kP, String.reduceEq, Nat.reduceAdd, Nat.reduceSub, Nat.reduceMul, Nat.reducePow, Nat.reduceLT, Nat.reduceLeDiff, Nat.reduceEqDiff, Int.reduceAdd, Int.reduceSub, Int.reduceMul, Int.reduceNeg, Int.reducePow, Int.reduceLT, Int.reduceLE, Int.reduceEq, Int.reduceAbs, Int.reduceToNat, reduceCtorEq]
      exact q _ _ (L _) h2
    by_cases c2 : i = 0
    · subst c2
      simp only [↓kW, kP, String.reduceEq, Nat.reduceAdd, Nat.reduceSub, Nat.reduceMul, Nat.reducePow, Nat.reduceLT, Nat.reduceLeDiff, Nat.reduceEqDiff, Int.reduceAdd, Int.reduceSub, Int.reduceMul, Int.reduceNeg, Int.reducePow, Int.reduceLT, Int.reduceLE, Int.reduceEq, Int.reduceAbs, Int.reduceToNat, reduceCtorEq, show ¬ ((deep : Int) + 1 = 1) by omega]
      exact q _ _ (L _) (h2.less (by omega))
    simp only [↓kW, kP, String.reduceEq, Nat.reduceAdd, Nat.reduceSub, Nat.reduceMul, Nat.reducePow, Nat.reduceLT, Nat.reduceLeDiff, Nat.reduceEqDiff, Int.reduceAdd, Int.reduceSub, Int.reduceMul, Int.reduceNeg, Int.reducePow, Int.reduceLT, Int.reduceLE, Int.reduceEq, Int.reduceAbs, Int.reduceToNat, reduceCtorEq, c2, show ¬ ((deep : Int) + 1 = 1) by omega]
    refine kind_r deep n k m2 _ (by omega) (by omega) h2 fun inner m3 hi h3 => ?_
    have hi' := hi
    obtain ⟨deep, rfl⟩ : ∃ d, deep = d + 1 := ⟨deep - 1, by omega⟩
    have hl2 : ∀ n, kindB (n + 1) leaf = true := L
    rcases (by omega : i = 1 ∨ i = 2 ∨ i = 3 ∨ i = 4) with rfl | rfl | rfl | rfl
    · simp only [↓kW, kP, String.reduceEq, Nat.reduceAdd, Nat.reduceSub, Nat.reduceMul, Nat.reducePow, Nat.reduceLT, Nat.reduceLeDiff, Nat.reduceEqDiff, Int.reduceAdd, Int.reduceSub, Int.reduceMul, Int.reduceNeg, Int.reducePow, Int.reduceLT, Int.reduceLE, Int.reduceEq, Int.reduceAbs, Int.reduceToNat, reduceCtorEq]; exact q _ _ (by simp (decide := true) [kindB, hi]) h3
    · simp only [↓kW, kP, String.reduceEq, Nat.reduceAdd, Nat.reduceSub, Nat.reduceMul, Nat.reducePow, Nat.reduceLT, Nat.reduceLeDiff, Nat.reduceEqDiff, Int.reduceAdd, Int.reduceSub, Int.reduceMul, Int.reduceNeg, Int.reducePow, Int.reduceLT, Int.reduceLE, Int.reduceEq, Int.reduceAbs, Int.reduceToNat, reduceCtorEq]; exact q _ _ (by simp (decide := true) [kindB, hi]) h3
    · simp only [↓kW, kP, String.reduceEq, Nat.reduceAdd, Nat.reduceSub, Nat.reduceMul, Nat.reducePow, Nat.reduceLT, Nat.reduceLeDiff, Nat.reduceEqDiff, Int.reduceAdd, Int.reduceSub, Int.reduceMul, Int.reduceNeg, Int.reducePow, Int.reduceLT, Int.reduceLE, Int.reduceEq, Int.reduceAbs, Int.reduceToNat, reduceCtorEq]; exact q _ _ (by simp (decide := true) [kindB, hi, L]) h3
    · simp only [↓kW, kP, String.reduceEq, Nat.reduceAdd, Nat.reduceSub, Nat.reduceMul, Nat.reducePow, Nat.reduceLT, Nat.reduceLeDiff, Nat.reduceEqDiff, Int.reduceAdd, Int.reduceSub, Int.reduceMul, Int.reduceNeg, Int.reducePow, Int.reduceLT, Int.reduceLE, Int.reduceEq, Int.reduceAbs, Int.reduceToNat, reduceCtorEq]; exact q _ _ (by simp (decide := true) [kindB, hi, L]) h3
theorem num_r {N k : Nat} {m : M} {Q : PyData → Env' → Prop} (hN : 3 ≤ N) (h : Hd (k + 2) m) (q : ∀ d m', numB d = true → Hd k m' → Q d [B.o m']) : wc (fs N).law_num [B.o m] Q := by
  obtain ⟨n, rfl, hn⟩ := fsN (c := 2) hN
  show wc (bodyFn [0] 1 (b_law_num (fs n))) _ _
  unfold b_law_num
  simp only [↓kW, kP, String.reduceEq, Nat.reduceAdd, Nat.reduceSub, Nat.reduceMul, Nat.reducePow, Nat.reduceLT, Nat.reduceLeDiff, Nat.reduceEqDiff, Int.reduceAdd, Int.reduceSub, Int.reduceMul, Int.reduceNeg, Int.reducePow, Int.reduceLT, Int.reduceLE, Int.reduceEq, Int.reduceAbs, Int.reduceToNat, reduceCtorEq]
  refine take_r (k := k + 1) (by omega) h (by omega) (by omega) fun i m1 i0 i1 h1 => ?_
  simp only [↓kW, kP, String.reduceEq, Nat.reduceAdd, Nat.reduceSub, Nat.reduceMul, Nat.reducePow, Nat.reduceLT, Nat.reduceLeDiff, Nat.reduceEqDiff, Int.reduceAdd, Int.reduceSub, Int.reduceMul, Int.reduceNeg, Int.reducePow, Int.reduceLT, Int.reduceLE, Int.reduceEq, Int.reduceAbs, Int.reduceToNat, reduceCtorEq]
  refine of_r (k := k) (by omega) h1 (by simp) (by simp) fun d m2 hd h2 => ?_
  simp only [↓kW, kP, String.reduceEq, Nat.reduceAdd, Nat.reduceSub, Nat.reduceMul, Nat.reducePow, Nat.reduceLT, Nat.reduceLeDiff, Nat.reduceEqDiff, Int.reduceAdd, Int.reduceSub, Int.reduceMul, Int.reduceNeg, Int.reducePow, Int.reduceLT, Int.reduceLE, Int.reduceEq, Int.reduceAbs, Int.reduceToNat, reduceCtorEq]
  refine q _ _ ?_ h2
  simp only [List.mem_cons, List.not_mem_nil, or_false] at hd
  rcases hd with rfl | rfl | rfl | rfl | rfl | rfl | rfl | rfl <;> first | rfl | decide | (simp only [numB, Bool.and_eq_true, decide_eq_true_eq]; omega)
theorem exprB_mono : ∀ {n m : Nat} {d : PyData}, n ≤ m → exprB n d = true → exprB m d = true
  | 0, _, d, _, h => by cases d <;> simp [exprB] at h
  | n + 1, 0, _, hm, _ => by omega
  | n + 1, m + 1, .str z, hm, h => h
  | n + 1, m + 1, .tuple [], hm, h => by simp [exprB] at h
  | n + 1, m + 1, .tuple (x :: xs), hm, h => by
    cases x with
    | str w =>
      have ih : ∀ y, exprB n y = true → exprB m y = true := fun y hy => exprB_mono (by omega) hy
      have ia : ∀ y, armB (exprB n) y = true → armB (exprB m) y = true := fun y hy => by
        unfold armB at hy ⊢
        split at hy
        · split at hy
          · rename_i h1; rw [if_pos h1]; exact ih _ hy
          · rename_i h1; rw [if_neg h1]; exact hy
        · cases hy
      have ias : ∀ y, argsB (exprB n) y = true → argsB (exprB m) y = true := fun y hy => by
        unfold argsB at hy ⊢
        split at hy
        · rw [Bool.and_eq_true, List.all_eq_true] at hy ⊢
          exact ⟨hy.1, fun z hz => ia z (hy.2 z hz)⟩
        · cases hy
      show exprF (exprB m) w xs = true
      have h : exprF (exprB n) w xs = true := h
      unfold exprF at h ⊢
      split at h
      · rename_i c; rw [if_pos c]; exact h
      rename_i c1; rw [if_neg c1]
      split at h
      · rename_i c; rw [if_pos c]; exact h
      rename_i c2; rw [if_neg c2]
      split at h
      · rename_i c; rw [if_pos c]
        split at h
        · exact ih _ h
        · cases h
      rename_i c3; rw [if_neg c3]
      split at h
      · rename_i c; rw [if_pos c]
        split at h
        · simp only [Bool.and_eq_true] at h ⊢; exact ⟨h.1, ih _ h.2.1, ih _ h.2.2⟩
        · cases h
      rename_i c4; rw [if_neg c4]
      split at h
      · rename_i c; rw [if_pos c]
        split at h
        · simp only [Bool.and_eq_true] at h ⊢; exact ⟨ih _ h.1, ih _ h.2⟩
        · cases h
      rename_i c5; rw [if_neg c5]
      split at h
      · rename_i c; rw [if_pos c]
        split at h
        · simp only [Bool.and_eq_true] at h ⊢; exact ⟨h.1, h.2.1, ias _ h.2.2⟩
        · cases h
      · cases h
    | _ => simp [exprB] at h
  | n + 1, m + 1, .none, _, h => by simp [exprB] at h
  | n + 1, m + 1, .bool _, _, h => by simp [exprB] at h
  | n + 1, m + 1, .int _, _, h => by simp [exprB] at h
  | n + 1, m + 1, .list _, _, h => by simp [exprB] at h
  | n + 1, m + 1, .dict _, _, h => by simp [exprB] at h

def costE : Nat → Nat
  | 0 => 100
  | d + 1 => 100 + 4 * costE d
theorem costE_pos : ∀ d, 100 ≤ costE d
  | 0 => Nat.le_refl _
  | d + 1 => by show 100 ≤ 100 + 4 * costE d; omega
/-- what an expression's generator promises -/
def ExprR (deep : Nat) : Prop := ∀ (N k : Nat) (m : M) (r : Int) (Q : PyData → Env' → Prop), 1 ≤ deep → 2 * deep + 6 ≤ N → Hd (k + costE deep) m → (∀ d m' r', exprB deep d = true → Hd k m' → Q d [B.o m', B.o (.lst [.int r'])]) → wc (fs N).law_expression [B.o m, B.v (.int deep), B.o (.lst [.int r])] Q
theorem args_r {deep : Nat} (ih : ExprR deep) (hd1 : 1 ≤ deep) {N k : Nat} {m : M} {r : Int} {Q : PyData → Env' → Prop} (hN : 2 * deep + 7 ≤ N) (h : Hd (k + 33 + 4 * costE deep) m) (q : ∀ d m' r', argsB (exprB deep) d = true → Hd k m' → Q d [B.o m', B.o (.lst [.int r'])]) :
    wc (fs N).law_arguments [B.o m, B.v (.int deep), B.o (.lst [.int r])] Q := by
  obtain ⟨n, rfl, hn⟩ := fsN (c := 2 * deep + 6) hN
  show wc (bodyFn [0, 2] 4 (b_law_arguments (fs n))) _ _
  unfold b_law_arguments
  simp only [↓kW, kP, String.reduceEq, Nat.reduceAdd, Nat.reduceSub, Nat.reduceMul, Nat.reducePow, Nat.reduceLT, Nat.reduceLeDiff, Nat.reduceEqDiff, Int.reduceAdd, Int.reduceSub, Int.reduceMul, Int.reduceNeg, Int.reducePow, Int.reduceLT, Int.reduceLE, Int.reduceEq, Int.reduceAbs, Int.reduceToNat, reduceCtorEq]
  refine ws_for (fun j E => ∃ m' r' xs a b c, E = [B.o m', B.v (.int deep), B.o (.lst [.int r']), B.o (.lst xs), a, b, c] ∧ Hd (k + j * (8 + costE deep)) m' ∧ xs.length + j ≤ 4 ∧ ∀ x ∈ xs, armB (exprB deep) x = true) ?_
  simp only [↓kW, kP, String.reduceEq, Nat.reduceAdd, Nat.reduceSub, Nat.reduceMul, Nat.reducePow, Nat.reduceLT, Nat.reduceLeDiff, Nat.reduceEqDiff, Int.reduceAdd, Int.reduceSub, Int.reduceMul, Int.reduceNeg, Int.reducePow, Int.reduceLT, Int.reduceLE, Int.reduceEq, Int.reduceAbs, Int.reduceToNat, reduceCtorEq]
  refine take_r (k := k + 32 + 4 * costE deep) (by omega) (h.less (by omega)) (by omega) (by omega) fun i m1 i0 i1 h1 => ?_
  simp only [↓kW, kP, String.reduceEq, Nat.reduceAdd, Nat.reduceSub, Nat.reduceMul, Nat.reducePow, Nat.reduceLT, Nat.reduceLeDiff, Nat.reduceEqDiff, Int.reduceAdd, Int.reduceSub, Int.reduceMul, Int.reduceNeg, Int.reducePow, Int.reduceLT, Int.reduceLE, Int.reduceEq, Int.reduceAbs, Int.reduceToNat, reduceCtorEq, itR_0 (n := i) (by omega) (by omega)]
  refine ⟨⟨m1, r, [], B.u, B.u, B.u, rfl, ?_, ?_, fun _ h => (List.not_mem_nil h).elim⟩, ?_, ?_⟩
  · rw [len_rng']
    have : i.toNat * (8 + costE deep) ≤ 4 * (8 + costE deep) := Nat.mul_le_mul_right _ (by omega)
    exact h1.less (by omega)
  · rw [len_rng']; simp; omega
  · rintro d hd j E ⟨m2, r2, xs, a, b, c, rfl, h2, hl, hx⟩
    refine ⟨_, rfl, ?_⟩
    have ex : (j + 1) * (8 + costE deep) = j * (8 + costE deep) + costE deep + 8 := by rw [Nat.succ_mul]; omega
    rw [ex] at h2
    simp only [↓kW, kP, String.reduceEq, Nat.reduceAdd, Nat.reduceSub, Nat.reduceMul, Nat.reducePow, Nat.reduceLT, Nat.reduceLeDiff, Nat.reduceEqDiff, Int.reduceAdd, Int.reduceSub, Int.reduceMul, Int.reduceNeg, Int.reducePow, Int.reduceLT, Int.reduceLE, Int.reduceEq, Int.reduceAbs, Int.reduceToNat, reduceCtorEq]
    refine of_r (k := k + j * (8 + costE deep) + costE deep + 7) (by omega) (h2.less (by omega)) (by decide) (by decide) fun mode m3 hm h3 => ?_
    simp only [↓kW, kP, String.reduceEq, Nat.reduceAdd, Nat.reduceSub, Nat.reduceMul, Nat.reducePow, Nat.reduceLT, Nat.reduceLeDiff, Nat.reduceEqDiff, Int.reduceAdd, Int.reduceSub, Int.reduceMul, Int.reduceNeg, Int.reducePow, Int.reduceLT, Int.reduceLE, Int.reduceEq, Int.reduceAbs, Int.reduceToNat, reduceCtorEq]
    refine name_r (k := k + j * (8 + costE deep) + costE deep) (by omega) (h3.less (by omega)) fun z m4 hz h4 => ?_
    have nil : ∀ y, armB (exprB deep) y = true → (∀ x ∈ xs ++ [y], armB (exprB deep) x = true) := fun y hy x hxx => by
      rcases List.mem_append.mp hxx with h | h
      · exact hx x h
      · rw [List.mem_singleton.mp h]; exact hy
    have l3 : xs.length < 16777216 := by omega
    simp only [List.mem_cons, List.not_mem_nil, or_false] at hm
    rcases hm with rfl | rfl | rfl | rfl
    · simp only [↓kW, kP, String.reduceEq, Nat.reduceAdd, Nat.reduceSub, Nat.reduceMul, Nat.reducePow, Nat.reduceLT, Nat.reduceLeDiff, Nat.reduceEqDiff, Int.reduceAdd, Int.reduceSub, Int.reduceMul, Int.reduceNeg, Int.reducePow, Int.reduceLT, Int.reduceLE, Int.reduceEq, Int.reduceAbs, Int.reduceToNat, reduceCtorEq]
      refine ih n _ m4 r2 _ hd1 (by omega) h4 fun e m5 r5 he h5 => ?_
      simp only [↓kW, kP, String.reduceEq, Nat.reduceAdd, Nat.reduceSub, Nat.reduceMul, Nat.reducePow, Nat.reduceLT, Nat.reduceLeDiff, Nat.reduceEqDiff, Int.reduceAdd, Int.reduceSub, Int.reduceMul, Int.reduceNeg, Int.reducePow, Int.reduceLT, Int.reduceLE, Int.reduceEq, Int.reduceAbs, Int.reduceToNat, reduceCtorEq, l3]
      exact ⟨_, _, _, _, _, _, rfl, h5, by simp; omega, nil _ (by simp [armB, he])⟩
    · simp only [↓kW, kP, String.reduceEq, Nat.reduceAdd, Nat.reduceSub, Nat.reduceMul, Nat.reducePow, Nat.reduceLT, Nat.reduceLeDiff, Nat.reduceEqDiff, Int.reduceAdd, Int.reduceSub, Int.reduceMul, Int.reduceNeg, Int.reducePow, Int.reduceLT, Int.reduceLE, Int.reduceEq, Int.reduceAbs, Int.reduceToNat, reduceCtorEq]
      refine ih n _ m4 r2 _ hd1 (by omega) h4 fun e m5 r5 he h5 => ?_
      simp only [↓kW, kP, String.reduceEq, Nat.reduceAdd, Nat.reduceSub, Nat.reduceMul, Nat.reducePow, Nat.reduceLT, Nat.reduceLeDiff, Nat.reduceEqDiff, Int.reduceAdd, Int.reduceSub, Int.reduceMul, Int.reduceNeg, Int.reducePow, Int.reduceLT, Int.reduceLE, Int.reduceEq, Int.reduceAbs, Int.reduceToNat, reduceCtorEq, l3]
      exact ⟨_, _, _, _, _, _, rfl, h5, by simp; omega, nil _ (by simp [armB, he])⟩
    · simp only [↓kW, kP, String.reduceEq, Nat.reduceAdd, Nat.reduceSub, Nat.reduceMul, Nat.reducePow, Nat.reduceLT, Nat.reduceLeDiff, Nat.reduceEqDiff, Int.reduceAdd, Int.reduceSub, Int.reduceMul, Int.reduceNeg, Int.reducePow, Int.reduceLT, Int.reduceLE, Int.reduceEq, Int.reduceAbs, Int.reduceToNat, reduceCtorEq, l3]
      exact ⟨_, _, _, _, _, _, rfl, h4.less (by omega), by simp; omega, nil _ (by simp (decide := true) [armB, hz])⟩
    · simp only [↓kW, kP, String.reduceEq, Nat.reduceAdd, Nat.reduceSub, Nat.reduceMul, Nat.reducePow, Nat.reduceLT, Nat.reduceLeDiff, Nat.reduceEqDiff, Int.reduceAdd, Int.reduceSub, Int.reduceMul, Int.reduceNeg, Int.reducePow, Int.reduceLT, Int.reduceLE, Int.reduceEq, Int.reduceAbs, Int.reduceToNat, reduceCtorEq, l3]
      exact ⟨_, _, _, _, _, _, rfl, h4.less (by omega), by simp; omega, nil _ (by simp (decide := true) [armB, hz])⟩
  · rintro E ⟨m2, r2, xs, a, b, c, rfl, h2, hl, hx⟩
    simp only [↓kW, kP, String.reduceEq, Nat.reduceAdd, Nat.reduceSub, Nat.reduceMul, Nat.reducePow, Nat.reduceLT, Nat.reduceLeDiff, Nat.reduceEqDiff, Int.reduceAdd, Int.reduceSub, Int.reduceMul, Int.reduceNeg, Int.reducePow, Int.reduceLT, Int.reduceLE, Int.reduceEq, Int.reduceAbs, Int.reduceToNat, reduceCtorEq]
    refine q _ _ _ ?_ (h2.less (by omega))
    simp only [argsB, Bool.and_eq_true, decide_eq_true_eq, List.all_eq_true]
    exact ⟨by omega, hx⟩

theorem wif_or (a b : Bool) (P Q : Prop) : wif a P (wif b P Q) = wif (a || b) P Q := by cases a <;> simp [wif]
theorem exprB_num {d : PyData} (n : Nat) (h : numB d = true) : exprB (n + 1) (.tuple [.str "num", d]) = true := by simp (decide := true) [exprB, exprF, h]
theorem exprB_name {z : Str} (n : Nat) (h : nameB (.str z) = true) : exprB (n + 1) (.tuple [.str "name", .str z]) = true := by simp (decide := true) [exprB, exprF, h]
theorem exprB_see {z : Str} (n : Nat) (h : nameB (.str z) = true) : exprB (n + 1) (.tuple [.str "see", .str z]) = true := by simp (decide := true) [exprB, exprF, h]
theorem exprB_peek {z : Str} (n : Nat) (h : nameB (.str z) = true) : exprB (n + 1) (.tuple [.str "peek", .str z]) = true := by simp (decide := true) [exprB, exprF, h]
theorem exprB_call {z : Str} {k as : PyData} (n : Nat) (h : nameB (.str z) = true) (hk : kindO k = true) (ha : argsB (exprB n) as = true) : exprB (n + 1) (.tuple [.str "call", .str z, k, as]) = true := by simp (decide := true) [exprB, exprF, h, hk, ha]
theorem exprB_op {s a b : PyData} (n : Nat) (h : signB s = true) (ha : exprB n a = true) (hb : exprB n b = true) : exprB (n + 1) (.tuple [.str "op", s, a, b]) = true := by simp (decide := true) [exprB, exprF, h, ha, hb]
theorem exprB_pair {a b : PyData} (n : Nat) (ha : exprB n a = true) (hb : exprB n b = true) : exprB (n + 1) (.tuple [.str "pair", a, b]) = true := by simp (decide := true) [exprB, exprF, ha, hb]
theorem exprB_box {a : PyData} (n : Nat) (ha : exprB n a = true) : exprB (n + 1) (.tuple [.str "box", a]) = true := by simp (decide := true) [exprB, exprF, ha]
theorem exprB_unbox {a : PyData} (n : Nat) (ha : exprB n a = true) : exprB (n + 1) (.tuple [.str "unbox", a]) = true := by simp (decide := true) [exprB, exprF, ha]
theorem exprB_loose {a : PyData} (n : Nat) (ha : exprB n a = true) : exprB (n + 1) (.tuple [.str "loose", a]) = true := by simp (decide := true) [exprB, exprF, ha]
theorem sgn_sign {d : PyData} (h : d ∈ sgn ("+-*/<=" : Str)) : signB d = true := by
  have e : sgn ("+-*/<=" : Str) = [.str "+", .str "-", .str "*", .str "/", .str "<", .str "="] := rfl
  rw [e] at h
  simp only [List.mem_cons, List.not_mem_nil, or_false] at h
  rcases h with rfl | rfl | rfl | rfl | rfl | rfl <;> rfl
theorem expr_r : ∀ deep, ExprR deep
  | 0 => fun N k m r Q h0 _ _ _ => by omega
  | deep + 1 => by
    intro N k m r Q _ hN h q
    have ih := expr_r deep
    have hc : costE (deep + 1) = 100 + 4 * costE deep := rfl
    rw [hc] at h
    obtain ⟨n, rfl, hn⟩ := fsN (c := 2 * deep + 7) (N := N) (by omega)
    show wc (bodyFn [0, 2] 6 (b_law_expression (fs n))) _ _
    unfold b_law_expression
    simp only [↓kW, kP, String.reduceEq, Nat.reduceAdd, Nat.reduceSub, Nat.reduceMul, Nat.reducePow, Nat.reduceLT, Nat.reduceLeDiff, Nat.reduceEqDiff, Int.reduceAdd, Int.reduceSub, Int.reduceMul, Int.reduceNeg, Int.reducePow, Int.reduceLT, Int.reduceLE, Int.reduceEq, Int.reduceAbs, Int.reduceToNat, reduceCtorEq]
    refine take_r (k := k + 99 + 4 * costE deep) (by omega) (h.less (by omega)) (by omega) (by omega) fun i m1 i0 i1 h1 => ?_
    simp only [↓kW, kP, String.reduceEq, Nat.reduceAdd, Nat.reduceSub, Nat.reduceMul, Nat.reducePow, Nat.reduceLT, Nat.reduceLeDiff, Nat.reduceEqDiff, Int.reduceAdd, Int.reduceSub, Int.reduceMul, Int.reduceNeg, Int.reducePow, Int.reduceLT, Int.reduceLE, Int.reduceEq, Int.reduceAbs, Int.reduceToNat, reduceCtorEq]
    refine name_r (k := k + 92 + 4 * costE deep) (by omega) (h1.less (by omega)) fun z m2 hz h2 => ?_
    by_cases c1 : i < 5
    · simp only [↓kW, kP, String.reduceEq, Nat.reduceAdd, Nat.reduceSub, Nat.reduceMul, Nat.reducePow, Nat.reduceLT, Nat.reduceLeDiff, Nat.reduceEqDiff, Int.reduceAdd, Int.reduceSub, Int.reduceMul, Int.reduceNeg, Int.reducePow, Int.reduceLT, Int.reduceLE, Int.reduceEq, Int.reduceAbs, Int.reduceToNat, reduceCtorEq, c1]
      refine num_r (k := k) (by omega) (h2.less (by omega)) fun d m3 hd h3 => ?_
      simp only [↓kW, kP, String.reduceEq, Nat.reduceAdd, Nat.reduceSub, Nat.reduceMul, Nat.reducePow, Nat.reduceLT, Nat.reduceLeDiff, Nat.reduceEqDiff, Int.reduceAdd, Int.reduceSub, Int.reduceMul, Int.reduceNeg, Int.reducePow, Int.reduceLT, Int.reduceLE, Int.reduceEq, Int.reduceAbs, Int.reduceToNat, reduceCtorEq]
      rcases (by omega : i % 5 = 0 ∨ i % 5 = 1 ∨ i % 5 = 2 ∨ i % 5 = 3 ∨ i % 5 = 4) with e | e | e | e | e
      · simp only [↓kW, kP, String.reduceEq, Nat.reduceAdd, Nat.reduceSub, Nat.reduceMul, Nat.reducePow, Nat.reduceLT, Nat.reduceLeDiff, Nat.reduceEqDiff, Int.reduceAdd, Int.reduceSub, Int.reduceMul, Int.reduceNeg, Int.reducePow, Int.reduceLT, Int.reduceLE, Int.reduceEq, Int.reduceAbs, Int.reduceToNat, reduceCtorEq, e]; exact q _ _ _ (exprB_num _ hd) h3
      · simp only [↓kW, kP, String.reduceEq, Nat.reduceAdd, Nat.reduceSub, Nat.reduceMul, Nat.reducePow, Nat.reduceLT, Nat.reduceLeDiff, Nat.reduceEqDiff, Int.reduceAdd, Int.reduceSub, Int.reduceMul, Int.reduceNeg, Int.reducePow, Int.reduceLT, Int.reduceLE, Int.reduceEq, Int.reduceAbs, Int.reduceToNat, reduceCtorEq, e]; exact q _ _ _ (exprB_name _ hz) h3
      · simp only [↓kW, kP, String.reduceEq, Nat.reduceAdd, Nat.reduceSub, Nat.reduceMul, Nat.reducePow, Nat.reduceLT, Nat.reduceLeDiff, Nat.reduceEqDiff, Int.reduceAdd, Int.reduceSub, Int.reduceMul, Int.reduceNeg, Int.reducePow, Int.reduceLT, Int.reduceLE, Int.reduceEq, Int.reduceAbs, Int.reduceToNat, reduceCtorEq, e]; exact q _ _ _ (exprB_see _ hz) h3
      · simp only [↓kW, kP, String.reduceEq, Nat.reduceAdd, Nat.reduceSub, Nat.reduceMul, Nat.reducePow, Nat.reduceLT, Nat.reduceLeDiff, Nat.reduceEqDiff, Int.reduceAdd, Int.reduceSub, Int.reduceMul, Int.reduceNeg, Int.reducePow, Int.reduceLT, Int.reduceLE, Int.reduceEq, Int.reduceAbs, Int.reduceToNat, reduceCtorEq, e]; exact q _ _ _ (exprB_peek _ hz) h3
      · simp only [↓kW, kP, String.reduceEq, Nat.reduceAdd, Nat.reduceSub, Nat.reduceMul, Nat.reducePow, Nat.reduceLT, Nat.reduceLeDiff, Nat.reduceEqDiff, Int.reduceAdd, Int.reduceSub, Int.reduceMul, Int.reduceNeg, Int.reducePow, Int.reduceLT, Int.reduceLE, Int.reduceEq, Int.reduceAbs, Int.reduceToNat, reduceCtorEq, e]; exact q _ _ _ (exprB_call _ hz rfl rfl) h3
    by_cases c2 : (deep : Int) + 1 = 1
    · simp only [↓kW, kP, String.reduceEq, Nat.reduceAdd, Nat.reduceSub, Nat.reduceMul, Nat.reducePow, Nat.reduceLT, Nat.reduceLeDiff, Nat.reduceEqDiff, Int.reduceAdd, Int.reduceSub, Int.reduceMul, Int.reduceNeg, Int.reducePow, Int.reduceLT, Int.reduceLE, Int.reduceEq, Int.reduceAbs, Int.reduceToNat, reduceCtorEq, c1, c2]
      refine num_r (k := k) (by omega) (h2.less (by omega)) fun d m3 hd h3 => ?_
      simp only [↓kW, kP, String.reduceEq, Nat.reduceAdd, Nat.reduceSub, Nat.reduceMul, Nat.reducePow, Nat.reduceLT, Nat.reduceLeDiff, Nat.reduceEqDiff, Int.reduceAdd, Int.reduceSub, Int.reduceMul, Int.reduceNeg, Int.reducePow, Int.reduceLT, Int.reduceLE, Int.reduceEq, Int.reduceAbs, Int.reduceToNat, reduceCtorEq]
      rcases (by omega : i % 5 = 0 ∨ i % 5 = 1 ∨ i % 5 = 2 ∨ i % 5 = 3 ∨ i % 5 = 4) with e | e | e | e | e
      · simp only [↓kW, kP, String.reduceEq, Nat.reduceAdd, Nat.reduceSub, Nat.reduceMul, Nat.reducePow, Nat.reduceLT, Nat.reduceLeDiff, Nat.reduceEqDiff, Int.reduceAdd, Int.reduceSub, Int.reduceMul, Int.reduceNeg, Int.reducePow, Int.reduceLT, Int.reduceLE, Int.reduceEq, Int.reduceAbs, Int.reduceToNat, reduceCtorEq, e]; exact q _ _ _ (exprB_num _ hd) h3
      · simp only [↓kW, kP, String.reduceEq, Nat.reduceAdd, Nat.reduceSub, Nat.reduceMul, Nat.reducePow, Nat.reduceLT, Nat.reduceLeDiff, Nat.reduceEqDiff, Int.reduceAdd, Int.reduceSub, Int.reduceMul, Int.reduceNeg, Int.reducePow, Int.reduceLT, Int.reduceLE, Int.reduceEq, Int.reduceAbs, Int.reduceToNat, reduceCtorEq, e]; exact q _ _ _ (exprB_name _ hz) h3
      · simp only [↓kW, kP, String.reduceEq, Nat.reduceAdd, Nat.reduceSub, Nat.reduceMul, Nat.reducePow, Nat.reduceLT, Nat.reduceLeDiff, Nat.reduceEqDiff, Int.reduceAdd, Int.reduceSub, Int.reduceMul, Int.reduceNeg, Int.reducePow, Int.reduceLT, Int.reduceLE, Int.reduceEq, Int.reduceAbs, Int.reduceToNat, reduceCtorEq, e]; exact q _ _ _ (exprB_see _ hz) h3
      · simp only [↓kW, kP, String.reduceEq, Nat.reduceAdd, Nat.reduceSub, Nat.reduceMul, Nat.reducePow, Nat.reduceLT, Nat.reduceLeDiff, Nat.reduceEqDiff, Int.reduceAdd, Int.reduceSub, Int.reduceMul, Int.reduceNeg, Int.reducePow, Int.reduceLT, Int.reduceLE, Int.reduceEq, Int.reduceAbs, Int.reduceToNat, reduceCtorEq, e]; exact q _ _ _ (exprB_peek _ hz) h3
      · simp only [↓kW, kP, String.reduceEq, Nat.reduceAdd, Nat.reduceSub, Nat.reduceMul, Nat.reducePow, Nat.reduceLT, Nat.reduceLeDiff, Nat.reduceEqDiff, Int.reduceAdd, Int.reduceSub, Int.reduceMul, Int.reduceNeg, Int.reducePow, Int.reduceLT, Int.reduceLE, Int.reduceEq, Int.reduceAbs, Int.reduceToNat, reduceCtorEq, e]; exact q _ _ _ (exprB_call _ hz rfl rfl) h3
    by_cases c3 : r - 1 < 1
    · simp only [↓kW, kP, String.reduceEq, Nat.reduceAdd, Nat.reduceSub, Nat.reduceMul, Nat.reducePow, Nat.reduceLT, Nat.reduceLeDiff, Nat.reduceEqDiff, Int.reduceAdd, Int.reduceSub, Int.reduceMul, Int.reduceNeg, Int.reducePow, Int.reduceLT, Int.reduceLE, Int.reduceEq, Int.reduceAbs, Int.reduceToNat, reduceCtorEq, c1, c2, c3]
      refine num_r (k := k) (by omega) (h2.less (by omega)) fun d m3 hd h3 => ?_
      simp only [↓kW, kP, String.reduceEq, Nat.reduceAdd, Nat.reduceSub, Nat.reduceMul, Nat.reducePow, Nat.reduceLT, Nat.reduceLeDiff, Nat.reduceEqDiff, Int.reduceAdd, Int.reduceSub, Int.reduceMul, Int.reduceNeg, Int.reducePow, Int.reduceLT, Int.reduceLE, Int.reduceEq, Int.reduceAbs, Int.reduceToNat, reduceCtorEq]
      rcases (by omega : i % 5 = 0 ∨ i % 5 = 1 ∨ i % 5 = 2 ∨ i % 5 = 3 ∨ i % 5 = 4) with e | e | e | e | e
      · simp only [↓kW, kP, String.reduceEq, Nat.reduceAdd, Nat.reduceSub, Nat.reduceMul, Nat.reducePow, Nat.reduceLT, Nat.reduceLeDiff, Nat.reduceEqDiff, Int.reduceAdd, Int.reduceSub, Int.reduceMul, Int.reduceNeg, Int.reducePow, Int.reduceLT, Int.reduceLE, Int.reduceEq, Int.reduceAbs, Int.reduceToNat, reduceCtorEq, e]; exact q _ _ _ (exprB_num _ hd) h3
      · simp only [↓kW, kP, String.reduceEq, Nat.reduceAdd, Nat.reduceSub, Nat.reduceMul, Nat.reducePow, Nat.reduceLT, Nat.reduceLeDiff, Nat.reduceEqDiff, Int.reduceAdd, Int.reduceSub, Int.reduceMul, Int.reduceNeg, Int.reducePow, Int.reduceLT, Int.reduceLE, Int.reduceEq, Int.reduceAbs, Int.reduceToNat, reduceCtorEq, e]; exact q _ _ _ (exprB_name _ hz) h3
      · simp only [↓kW, kP, String.reduceEq, Nat.reduceAdd, Nat.reduceSub, Nat.reduceMul, Nat.reducePow, Nat.reduceLT, Nat.reduceLeDiff, Nat.reduceEqDiff, Int.reduceAdd, Int.reduceSub, Int.reduceMul, Int.reduceNeg, Int.reducePow, Int.reduceLT, Int.reduceLE, Int.reduceEq, Int.reduceAbs, Int.reduceToNat, reduceCtorEq, e]; exact q _ _ _ (exprB_see _ hz) h3
      · simp only [↓kW, kP, String.reduceEq, Nat.reduceAdd, Nat.reduceSub, Nat.reduceMul, Nat.reducePow, Nat.reduceLT, Nat.reduceLeDiff, Nat.reduceEqDiff, Int.reduceAdd, Int.reduceSub, Int.reduceMul, Int.reduceNeg, Int.reducePow, Int.reduceLT, Int.reduceLE, Int.reduceEq, Int.reduceAbs, Int.reduceToNat, reduceCtorEq, e]; exact q _ _ _ (exprB_peek _ hz) h3
      · simp only [↓kW, kP, String.reduceEq, Nat.reduceAdd, Nat.reduceSub, Nat.reduceMul, Nat.reducePow, Nat.reduceLT, Nat.reduceLeDiff, Nat.reduceEqDiff, Int.reduceAdd, Int.reduceSub, Int.reduceMul, Int.reduceNeg, Int.reducePow, Int.reduceLT, Int.reduceLE, Int.reduceEq, Int.reduceAbs, Int.reduceToNat, reduceCtorEq, e]; exact q _ _ _ (exprB_call _ hz rfl rfl) h3
    simp only [↓kW, kP, String.reduceEq, Nat.reduceAdd, Nat.reduceSub, Nat.reduceMul, Nat.reducePow, Nat.reduceLT, Nat.reduceLeDiff, Nat.reduceEqDiff, Int.reduceAdd, Int.reduceSub, Int.reduceMul, Int.reduceNeg, Int.reducePow, Int.reduceLT, Int.reduceLE, Int.reduceEq, Int.reduceAbs, Int.reduceToNat, reduceCtorEq, c1, c2, c3]
    have d1 : 1 ≤ deep := by omega
    refine wif_by (fun _ => ?_) (fun c1 => ?_)
    · simp only [↓kW, kP, String.reduceEq, Nat.reduceAdd, Nat.reduceSub, Nat.reduceMul, Nat.reducePow, Nat.reduceLT, Nat.reduceLeDiff, Nat.reduceEqDiff, Int.reduceAdd, Int.reduceSub, Int.reduceMul, Int.reduceNeg, Int.reducePow, Int.reduceLT, Int.reduceLE, Int.reduceEq, Int.reduceAbs, Int.reduceToNat, reduceCtorEq]
      refine ofs_r (k := k + 91 + 4 * costE deep) (by omega) (h2.less (by omega)) (by decide) (by decide) fun s m3 hs h3 => ?_
      simp only [↓kW, kP, String.reduceEq, Nat.reduceAdd, Nat.reduceSub, Nat.reduceMul, Nat.reducePow, Nat.reduceLT, Nat.reduceLeDiff, Nat.reduceEqDiff, Int.reduceAdd, Int.reduceSub, Int.reduceMul, Int.reduceNeg, Int.reducePow, Int.reduceLT, Int.reduceLE, Int.reduceEq, Int.reduceAbs, Int.reduceToNat, reduceCtorEq]
      refine ih n (k + 91 + 3 * costE deep) m3 _ _ d1 (by omega) (h3.less (by omega)) fun a m4 r4 ha h4 => ?_
      simp only [↓kW, kP, String.reduceEq, Nat.reduceAdd, Nat.reduceSub, Nat.reduceMul, Nat.reducePow, Nat.reduceLT, Nat.reduceLeDiff, Nat.reduceEqDiff, Int.reduceAdd, Int.reduceSub, Int.reduceMul, Int.reduceNeg, Int.reducePow, Int.reduceLT, Int.reduceLE, Int.reduceEq, Int.reduceAbs, Int.reduceToNat, reduceCtorEq]
      refine ih n (k + 91 + 2 * costE deep) m4 _ _ d1 (by omega) (h4.less (by omega)) fun b m5 r5 hb h5 => ?_
      simp only [↓kW, kP, String.reduceEq, Nat.reduceAdd, Nat.reduceSub, Nat.reduceMul, Nat.reducePow, Nat.reduceLT, Nat.reduceLeDiff, Nat.reduceEqDiff, Int.reduceAdd, Int.reduceSub, Int.reduceMul, Int.reduceNeg, Int.reducePow, Int.reduceLT, Int.reduceLE, Int.reduceEq, Int.reduceAbs, Int.reduceToNat, reduceCtorEq]
      exact q _ _ _ (exprB_op _ (sgn_sign hs) ha hb) (h5.less (by omega))
    simp only [decide_eq_false_iff_not] at c1
    simp only [↓kW, kP, String.reduceEq, Nat.reduceAdd, Nat.reduceSub, Nat.reduceMul, Nat.reducePow, Nat.reduceLT, Nat.reduceLeDiff, Nat.reduceEqDiff, Int.reduceAdd, Int.reduceSub, Int.reduceMul, Int.reduceNeg, Int.reducePow, Int.reduceLT, Int.reduceLE, Int.reduceEq, Int.reduceAbs, Int.reduceToNat, reduceCtorEq]
    refine wif_by (fun c2 => ?_) (fun c2 => ?_)
    · simp only [decide_eq_true_eq] at c2
      rcases (by omega : i = 8 ∨ i = 9 ∨ i = 10) with rfl | rfl | rfl
      · simp only [↓kW, kP, String.reduceEq, Nat.reduceAdd, Nat.reduceSub, Nat.reduceMul, Nat.reducePow, Nat.reduceLT, Nat.reduceLeDiff, Nat.reduceEqDiff, Int.reduceAdd, Int.reduceSub, Int.reduceMul, Int.reduceNeg, Int.reducePow, Int.reduceLT, Int.reduceLE, Int.reduceEq, Int.reduceAbs, Int.reduceToNat, reduceCtorEq]
        refine ih n (k + 92 + 3 * costE deep) m2 _ _ d1 (by omega) (h2.less (by omega)) fun a m4 r4 ha h4 => ?_
        simp only [↓kW, kP, String.reduceEq, Nat.reduceAdd, Nat.reduceSub, Nat.reduceMul, Nat.reducePow, Nat.reduceLT, Nat.reduceLeDiff, Nat.reduceEqDiff, Int.reduceAdd, Int.reduceSub, Int.reduceMul, Int.reduceNeg, Int.reducePow, Int.reduceLT, Int.reduceLE, Int.reduceEq, Int.reduceAbs, Int.reduceToNat, reduceCtorEq]
        exact q _ _ _ (exprB_box _ ha) (h4.less (by omega))
      · simp only [↓kW, kP, String.reduceEq, Nat.reduceAdd, Nat.reduceSub, Nat.reduceMul, Nat.reducePow, Nat.reduceLT, Nat.reduceLeDiff, Nat.reduceEqDiff, Int.reduceAdd, Int.reduceSub, Int.reduceMul, Int.reduceNeg, Int.reducePow, Int.reduceLT, Int.reduceLE, Int.reduceEq, Int.reduceAbs, Int.reduceToNat, reduceCtorEq]
        refine ih n (k + 92 + 3 * costE deep) m2 _ _ d1 (by omega) (h2.less (by omega)) fun a m4 r4 ha h4 => ?_
        simp only [↓kW, kP, String.reduceEq, Nat.reduceAdd, Nat.reduceSub, Nat.reduceMul, Nat.reducePow, Nat.reduceLT, Nat.reduceLeDiff, Nat.reduceEqDiff, Int.reduceAdd, Int.reduceSub, Int.reduceMul, Int.reduceNeg, Int.reducePow, Int.reduceLT, Int.reduceLE, Int.reduceEq, Int.reduceAbs, Int.reduceToNat, reduceCtorEq]
        exact q _ _ _ (exprB_unbox _ ha) (h4.less (by omega))
      · simp only [↓kW, kP, String.reduceEq, Nat.reduceAdd, Nat.reduceSub, Nat.reduceMul, Nat.reducePow, Nat.reduceLT, Nat.reduceLeDiff, Nat.reduceEqDiff, Int.reduceAdd, Int.reduceSub, Int.reduceMul, Int.reduceNeg, Int.reducePow, Int.reduceLT, Int.reduceLE, Int.reduceEq, Int.reduceAbs, Int.reduceToNat, reduceCtorEq]
        refine ih n (k + 92 + 3 * costE deep) m2 _ _ d1 (by omega) (h2.less (by omega)) fun a m4 r4 ha h4 => ?_
        simp only [↓kW, kP, String.reduceEq, Nat.reduceAdd, Nat.reduceSub, Nat.reduceMul, Nat.reducePow, Nat.reduceLT, Nat.reduceLeDiff, Nat.reduceEqDiff, Int.reduceAdd, Int.reduceSub, Int.reduceMul, Int.reduceNeg, Int.reducePow, Int.reduceLT, Int.reduceLE, Int.reduceEq, Int.reduceAbs, Int.reduceToNat, reduceCtorEq]
        exact q _ _ _ (exprB_loose _ ha) (h4.less (by omega))
    simp only [↓kW, kP, String.reduceEq, Nat.reduceAdd, Nat.reduceSub, Nat.reduceMul, Nat.reducePow, Nat.reduceLT, Nat.reduceLeDiff, Nat.reduceEqDiff, Int.reduceAdd, Int.reduceSub, Int.reduceMul, Int.reduceNeg, Int.reducePow, Int.reduceLT, Int.reduceLE, Int.reduceEq, Int.reduceAbs, Int.reduceToNat, reduceCtorEq]
    refine wif_by (fun c3 => ?_) (fun c3 => ?_)
    · simp only [↓kW, kP, String.reduceEq, Nat.reduceAdd, Nat.reduceSub, Nat.reduceMul, Nat.reducePow, Nat.reduceLT, Nat.reduceLeDiff, Nat.reduceEqDiff, Int.reduceAdd, Int.reduceSub, Int.reduceMul, Int.reduceNeg, Int.reducePow, Int.reduceLT, Int.reduceLE, Int.reduceEq, Int.reduceAbs, Int.reduceToNat, reduceCtorEq]
      refine ih n (k + 92 + 3 * costE deep) m2 _ _ d1 (by omega) (h2.less (by omega)) fun a m4 r4 ha h4 => ?_
      simp only [↓kW, kP, String.reduceEq, Nat.reduceAdd, Nat.reduceSub, Nat.reduceMul, Nat.reducePow, Nat.reduceLT, Nat.reduceLeDiff, Nat.reduceEqDiff, Int.reduceAdd, Int.reduceSub, Int.reduceMul, Int.reduceNeg, Int.reducePow, Int.reduceLT, Int.reduceLE, Int.reduceEq, Int.reduceAbs, Int.reduceToNat, reduceCtorEq]
      refine ih n (k + 92 + 2 * costE deep) m4 _ _ d1 (by omega) (h4.less (by omega)) fun b m5 r5 hb h5 => ?_
      simp only [↓kW, kP, String.reduceEq, Nat.reduceAdd, Nat.reduceSub, Nat.reduceMul, Nat.reducePow, Nat.reduceLT, Nat.reduceLeDiff, Nat.reduceEqDiff, Int.reduceAdd, Int.reduceSub, Int.reduceMul, Int.reduceNeg, Int.reducePow, Int.reduceLT, Int.reduceLE, Int.reduceEq, Int.reduceAbs, Int.reduceToNat, reduceCtorEq]
      exact q _ _ _ (exprB_pair _ ha hb) (h5.less (by omega))
    simp only [↓kW, kP, String.reduceEq, Nat.reduceAdd, Nat.reduceSub, Nat.reduceMul, Nat.reducePow, Nat.reduceLT, Nat.reduceLeDiff, Nat.reduceEqDiff, Int.reduceAdd, Int.reduceSub, Int.reduceMul, Int.reduceNeg, Int.reducePow, Int.reduceLT, Int.reduceLE, Int.reduceEq, Int.reduceAbs, Int.reduceToNat, reduceCtorEq]
    refine take_r (k := k + 91 + 4 * costE deep) (by omega) (h2.less (by omega)) (by omega) (by omega) fun j m3 j0 j1 h3 => ?_
    simp only [↓kW, kP, String.reduceEq, Nat.reduceAdd, Nat.reduceSub, Nat.reduceMul, Nat.reducePow, Nat.reduceLT, Nat.reduceLeDiff, Nat.reduceEqDiff, Int.reduceAdd, Int.reduceSub, Int.reduceMul, Int.reduceNeg, Int.reducePow, Int.reduceLT, Int.reduceLE, Int.reduceEq, Int.reduceAbs, Int.reduceToNat, reduceCtorEq]
    obtain ⟨j, rfl⟩ := Int.eq_ofNat_of_zero_le j0
    rw [show (1 : Int) + (j : Int) = ((1 + j : Nat) : Int) by omega]
    refine kind_r (1 + j) n (k + 79 + 4 * costE deep) m3 _ (by omega) (by omega) (h3.less (by omega)) fun kd m4 hk h4 => ?_
    simp only [↓kW, kP, String.reduceEq, Nat.reduceAdd, Nat.reduceSub, Nat.reduceMul, Nat.reducePow, Nat.reduceLT, Nat.reduceLeDiff, Nat.reduceEqDiff, Int.reduceAdd, Int.reduceSub, Int.reduceMul, Int.reduceNeg, Int.reducePow, Int.reduceLT, Int.reduceLE, Int.reduceEq, Int.reduceAbs, Int.reduceToNat, reduceCtorEq]
    refine of_r (k := k + 78 + 4 * costE deep) (by omega) (h4.less (by omega)) (by simp) (by simp) fun kk m5 hkk h5 => ?_
    have hko : kindO kk = true := by
      simp only [List.mem_cons, List.not_mem_nil, or_false] at hkk
      rcases hkk with rfl | rfl
      · rfl
      · have := kindB_mono (show 1 + j ≤ 6 by omega) hk
        cases kk <;> first | rfl | exact this
    simp only [↓kW, kP, String.reduceEq, Nat.reduceAdd, Nat.reduceSub, Nat.reduceMul, Nat.reducePow, Nat.reduceLT, Nat.reduceLeDiff, Nat.reduceEqDiff, Int.reduceAdd, Int.reduceSub, Int.reduceMul, Int.reduceNeg, Int.reducePow, Int.reduceLT, Int.reduceLE, Int.reduceEq, Int.reduceAbs, Int.reduceToNat, reduceCtorEq]
    refine args_r ih d1 (k := k) (by omega) (h5.less (by omega)) fun as m6 r6 has h6 => ?_
    simp only [↓kW, kP, String.reduceEq, Nat.reduceAdd, Nat.reduceSub, Nat.reduceMul, Nat.reducePow, Nat.reduceLT, Nat.reduceLeDiff, Nat.reduceEqDiff, Int.reduceAdd, Int.reduceSub, Int.reduceMul, Int.reduceNeg, Int.reducePow, Int.reduceLT, Int.reduceLE, Int.reduceEq, Int.reduceAbs, Int.reduceToNat, reduceCtorEq]
    exact q _ _ _ (exprB_call _ hz hko has) h6

theorem wif_and (a b : Bool) (P Q : Prop) : wif a (wif b P Q) Q = wif (a && b) P Q := by cases a <;> simp [wif]
theorem odd_r {N k : Nat} {m : M} {z : Str} {Q : PyData → Env' → Prop} (hN : 3 ≤ N) (h : Hd (k + 1) m) (q : ∀ d m', Hd k m' → Q d [B.o m']) : wc (fs N).law_odd [B.o m, B.v (.str z)] Q := by
  obtain ⟨n, rfl, hn⟩ := fsN (c := 2) (N := N) (by omega)
  show wc (bodyFn [0] 1 (b_law_odd (fs n))) _ _
  unfold b_law_odd
  simp only [↓kW, kP, String.reduceEq, Nat.reduceAdd, Nat.reduceSub, Nat.reduceMul, Nat.reducePow, Nat.reduceLT, Nat.reduceLeDiff, Nat.reduceEqDiff, Int.reduceAdd, Int.reduceSub, Int.reduceMul, Int.reduceNeg, Int.reducePow, Int.reduceLT, Int.reduceLE, Int.reduceEq, Int.reduceAbs, Int.reduceToNat, reduceCtorEq]
  refine of_r (k := k) (by omega) h (by simp) (by simp) fun d m1 _ h1 => ?_
  simp only [↓kW, kP, String.reduceEq, Nat.reduceAdd, Nat.reduceSub, Nat.reduceMul, Nat.reducePow, Nat.reduceLT, Nat.reduceLeDiff, Nat.reduceEqDiff, Int.reduceAdd, Int.reduceSub, Int.reduceMul, Int.reduceNeg, Int.reducePow, Int.reduceLT, Int.reduceLE, Int.reduceEq, Int.reduceAbs, Int.reduceToNat, reduceCtorEq]
  exact q _ _ h1
theorem spoilt_r : ∀ (n N k : Nat) (d : PyData) (m : M) (Q : PyData → Env' → Prop), Sm n d → n + 4 ≤ N → Hd (k + 4 * (n + 1)) m → (∀ r m', Hd k m' → Q r [B.o m']) → wc (fs N).law_spoilt [B.o m, B.v d] Q := by
  intro n
  induction n with
  | zero =>
    intro N k d m Q sm hN h q
    obtain ⟨n, rfl, hn⟩ := fsN (c := 3) (N := N) (by omega)
    show wc (bodyFn [0] 3 (b_law_spoilt (fs n))) _ _
    unfold b_law_spoilt
    cases d with
    | tuple xs => exact sm.elim
    | _ =>
      simp only [↓kW, kP, String.reduceEq, Nat.reduceAdd, Nat.reduceSub, Nat.reduceMul, Nat.reducePow, Nat.reduceLT, Nat.reduceLeDiff, Nat.reduceEqDiff, Int.reduceAdd, Int.reduceSub, Int.reduceMul, Int.reduceNeg, Int.reducePow, Int.reduceLT, Int.reduceLE, Int.reduceEq, Int.reduceAbs, Int.reduceToNat, reduceCtorEq]
      refine odd_r (k := k) (by omega) (h.less (by omega)) fun r m1 h1 => ?_
      simp only [↓kW, kP, String.reduceEq, Nat.reduceAdd, Nat.reduceSub, Nat.reduceMul, Nat.reducePow, Nat.reduceLT, Nat.reduceLeDiff, Nat.reduceEqDiff, Int.reduceAdd, Int.reduceSub, Int.reduceMul, Int.reduceNeg, Int.reducePow, Int.reduceLT, Int.reduceLE, Int.reduceEq, Int.reduceAbs, Int.reduceToNat, reduceCtorEq]
      exact q _ _ h1
  | succ n ih =>
    intro N k d m Q sm hN h q
    obtain ⟨N, rfl, hn⟩ := fsN (c := n + 4) (N := N) (by omega)
    show wc (bodyFn [0] 3 (b_law_spoilt (fs N))) _ _
    unfold b_law_spoilt
    cases d with
    | tuple xs =>
      cases xs with
      | nil =>
        simp only [↓kW, kP, String.reduceEq, Nat.reduceAdd, Nat.reduceSub, Nat.reduceMul, Nat.reducePow, Nat.reduceLT, Nat.reduceLeDiff, Nat.reduceEqDiff, Int.reduceAdd, Int.reduceSub, Int.reduceMul, Int.reduceNeg, Int.reducePow, Int.reduceLT, Int.reduceLE, Int.reduceEq, Int.reduceAbs, Int.reduceToNat, reduceCtorEq]
        refine odd_r (k := k) (by omega) (h.less (by omega)) fun r m1 h1 => ?_
        simp only [↓kW, kP, String.reduceEq, Nat.reduceAdd, Nat.reduceSub, Nat.reduceMul, Nat.reducePow, Nat.reduceLT, Nat.reduceLeDiff, Nat.reduceEqDiff, Int.reduceAdd, Int.reduceSub, Int.reduceMul, Int.reduceNeg, Int.reducePow, Int.reduceLT, Int.reduceLE, Int.reduceEq, Int.reduceAbs, Int.reduceToNat, reduceCtorEq]
        exact q _ _ h1
      | cons x xs =>
        obtain ⟨sl, sx⟩ := sm
        have lx : xs.length + 1 ≤ 1000000 := sl
        simp only [↓kW, kP, String.reduceEq, Nat.reduceAdd, Nat.reduceSub, Nat.reduceMul, Nat.reducePow, Nat.reduceLT, Nat.reduceLeDiff, Nat.reduceEqDiff, Int.reduceAdd, Int.reduceSub, Int.reduceMul, Int.reduceNeg, Int.reducePow, Int.reduceLT, Int.reduceLE, Int.reduceEq, Int.reduceAbs, Int.reduceToNat, reduceCtorEq]
        refine take_r (k := k + 4 * (n + 1) + 3) (by omega) (h.less (by omega)) (by omega) (by omega) fun i m1 i0 i1 h1 => ?_
        simp only [↓kW, kP, String.reduceEq, Nat.reduceAdd, Nat.reduceSub, Nat.reduceMul, Nat.reducePow, Nat.reduceLT, Nat.reduceLeDiff, Nat.reduceEqDiff, Int.reduceAdd, Int.reduceSub, Int.reduceMul, Int.reduceNeg, Int.reducePow, Int.reduceLT, Int.reduceLE, Int.reduceEq, Int.reduceAbs, Int.reduceToNat, reduceCtorEq]
        refine take_r (k := k + 4 * (n + 1) + 2) (by omega) (h1.less (by omega)) (by omega) (by omega) fun p m2 p0 p1 h2 => ?_
        simp only [↓kW, kP, String.reduceEq, Nat.reduceAdd, Nat.reduceSub, Nat.reduceMul, Nat.reducePow, Nat.reduceLT, Nat.reduceLeDiff, Nat.reduceEqDiff, Int.reduceAdd, Int.reduceSub, Int.reduceMul, Int.reduceNeg, Int.reducePow, Int.reduceLT, Int.reduceLE, Int.reduceEq, Int.reduceAbs, Int.reduceToNat, reduceCtorEq]
        refine take_r (k := k + 4 * (n + 1) + 1) (by omega) (h2.less (by omega)) (by omega) (by omega) fun t m3 t0 t1 h3 => ?_
        obtain ⟨i, rfl⟩ := Int.eq_ofNat_of_zero_le i0
        obtain ⟨t, rfl⟩ := Int.eq_ofNat_of_zero_le t0
        obtain ⟨y, hy, ey, _⟩ := atI_in (xs := x :: xs) (i := (i : Int)) (by omega) (by rw [List.length_cons]; omega)
        obtain ⟨z, hz, ez, _⟩ := atI_in (xs := x :: xs) (i := (t : Int)) (by omega) (by rw [List.length_cons]; omega)
        have a1 : ((x :: xs).take i).length ≤ 1000000 := by rw [List.length_take, List.length_cons]; omega
        have a2 : ((x :: xs).drop (i + 1)).length ≤ 1000000 := by rw [List.length_drop, List.length_cons]; omega
        have a3 : ((x :: xs).drop i).length ≤ 1000000 := by rw [List.length_drop, List.length_cons]; omega
        generalize eP : (x :: xs).take i = P at a1
        generalize eR : (x :: xs).drop (i + 1) = R at a2
        generalize eS : (x :: xs).drop i = S at a3
        have b1 : P.length + 1 ≤ 16777216 := by omega
        have b2 : P.length + R.length ≤ 16777216 := by omega
        have b3 : P.length + 1 + R.length ≤ 16777216 := by omega
        have b4 : P.length + 1 + S.length ≤ 16777216 := by omega
        by_cases c : 4 < p
        · by_cases ty : isTup y = true
          · simp only [↓kW, kP, String.reduceEq, Nat.reduceAdd, Nat.reduceSub, Nat.reduceMul, Nat.reducePow, Nat.reduceLT, Nat.reduceLeDiff, Nat.reduceEqDiff, Int.reduceAdd, Int.reduceSub, Int.reduceMul, Int.reduceNeg, Int.reducePow, Int.reduceLT, Int.reduceLE, Int.reduceEq, Int.reduceAbs, Int.reduceToNat, reduceCtorEq, c, ty, ey, ez, cutP_hi, cutP_lo, cutP_lo1, eP, eR, eS, List.length_append, b1, b2, b3, b4]
            refine ih N (k + 1) y m3 _ (sx y hy) (by omega) (h3.less (by omega)) fun r m4 h4 => ?_
            simp only [↓kW, kP, String.reduceEq, Nat.reduceAdd, Nat.reduceSub, Nat.reduceMul, Nat.reducePow, Nat.reduceLT, Nat.reduceLeDiff, Nat.reduceEqDiff, Int.reduceAdd, Int.reduceSub, Int.reduceMul, Int.reduceNeg, Int.reducePow, Int.reduceLT, Int.reduceLE, Int.reduceEq, Int.reduceAbs, Int.reduceToNat, reduceCtorEq, ey, ez, cutP_hi, cutP_lo, cutP_lo1, eP, eR, eS, List.length_append, b1, b2, b3, b4]
            exact q _ _ (h4.less (by omega))
          have ty' : isTup y = false := by simpa using ty
          simp only [↓kW, kP, String.reduceEq, Nat.reduceAdd, Nat.reduceSub, Nat.reduceMul, Nat.reducePow, Nat.reduceLT, Nat.reduceLeDiff, Nat.reduceEqDiff, Int.reduceAdd, Int.reduceSub, Int.reduceMul, Int.reduceNeg, Int.reducePow, Int.reduceLT, Int.reduceLE, Int.reduceEq, Int.reduceAbs, Int.reduceToNat, reduceCtorEq, c, ty', ey, ez, cutP_hi, cutP_lo, cutP_lo1, eP, eR, eS, List.length_append, b1, b2, b3, b4, show ¬ p = 0 by omega, show ¬ p = 1 by omega, show ¬ p = 2 by omega]
          refine odd_r (k := k) (by omega) (h3.less (by omega)) fun r m4 h4 => ?_
          simp only [↓kW, kP, String.reduceEq, Nat.reduceAdd, Nat.reduceSub, Nat.reduceMul, Nat.reducePow, Nat.reduceLT, Nat.reduceLeDiff, Nat.reduceEqDiff, Int.reduceAdd, Int.reduceSub, Int.reduceMul, Int.reduceNeg, Int.reducePow, Int.reduceLT, Int.reduceLE, Int.reduceEq, Int.reduceAbs, Int.reduceToNat, reduceCtorEq, ey, ez, cutP_hi, cutP_lo, cutP_lo1, eP, eR, eS, List.length_append, b1, b2, b3, b4]
          exact q _ _ h4
        by_cases p0 : p = 0
        · subst p0; simp only [↓kW, kP, String.reduceEq, Nat.reduceAdd, Nat.reduceSub, Nat.reduceMul, Nat.reducePow, Nat.reduceLT, Nat.reduceLeDiff, Nat.reduceEqDiff, Int.reduceAdd, Int.reduceSub, Int.reduceMul, Int.reduceNeg, Int.reducePow, Int.reduceLT, Int.reduceLE, Int.reduceEq, Int.reduceAbs, Int.reduceToNat, reduceCtorEq, ey, ez, cutP_hi, cutP_lo, cutP_lo1, eP, eR, eS, List.length_append, b1, b2, b3, b4]; exact q _ _ (h3.less (by omega))
        by_cases p1 : p = 1
        · subst p1; simp only [↓kW, kP, String.reduceEq, Nat.reduceAdd, Nat.reduceSub, Nat.reduceMul, Nat.reducePow, Nat.reduceLT, Nat.reduceLeDiff, Nat.reduceEqDiff, Int.reduceAdd, Int.reduceSub, Int.reduceMul, Int.reduceNeg, Int.reducePow, Int.reduceLT, Int.reduceLE, Int.reduceEq, Int.reduceAbs, Int.reduceToNat, reduceCtorEq, ey, ez, cutP_hi, cutP_lo, cutP_lo1, eP, eR, eS, List.length_append, b1, b2, b3, b4]; exact q _ _ (h3.less (by omega))
        by_cases p2 : p = 2
        · subst p2
          by_cases ti : (t : Int) = i
          · simp only [↓kW, kP, String.reduceEq, Nat.reduceAdd, Nat.reduceSub, Nat.reduceMul, Nat.reducePow, Nat.reduceLT, Nat.reduceLeDiff, Nat.reduceEqDiff, Int.reduceAdd, Int.reduceSub, Int.reduceMul, Int.reduceNeg, Int.reducePow, Int.reduceLT, Int.reduceLE, Int.reduceEq, Int.reduceAbs, Int.reduceToNat, reduceCtorEq, ey, ez, cutP_hi, cutP_lo, cutP_lo1, eP, eR, eS, List.length_append, b1, b2, b3, b4, ti]; exact q _ _ (h3.less (by omega))
          · simp only [↓kW, kP, String.reduceEq, Nat.reduceAdd, Nat.reduceSub, Nat.reduceMul, Nat.reducePow, Nat.reduceLT, Nat.reduceLeDiff, Nat.reduceEqDiff, Int.reduceAdd, Int.reduceSub, Int.reduceMul, Int.reduceNeg, Int.reducePow, Int.reduceLT, Int.reduceLE, Int.reduceEq, Int.reduceAbs, Int.reduceToNat, reduceCtorEq, ey, ez, cutP_hi, cutP_lo, cutP_lo1, eP, eR, eS, List.length_append, b1, b2, b3, b4, ti]; exact q _ _ (h3.less (by omega))
        · simp only [↓kW, kP, String.reduceEq, Nat.reduceAdd, Nat.reduceSub, Nat.reduceMul, Nat.reducePow, Nat.reduceLT, Nat.reduceLeDiff, Nat.reduceEqDiff, Int.reduceAdd, Int.reduceSub, Int.reduceMul, Int.reduceNeg, Int.reducePow, Int.reduceLT, Int.reduceLE, Int.reduceEq, Int.reduceAbs, Int.reduceToNat, reduceCtorEq, c, p0, p1, p2, ey, ez, cutP_hi, cutP_lo, cutP_lo1, eP, eR, eS, List.length_append, b1, b2, b3, b4]
          refine odd_r (k := k) (by omega) (h3.less (by omega)) fun r m4 h4 => ?_
          simp only [↓kW, kP, String.reduceEq, Nat.reduceAdd, Nat.reduceSub, Nat.reduceMul, Nat.reducePow, Nat.reduceLT, Nat.reduceLeDiff, Nat.reduceEqDiff, Int.reduceAdd, Int.reduceSub, Int.reduceMul, Int.reduceNeg, Int.reducePow, Int.reduceLT, Int.reduceLE, Int.reduceEq, Int.reduceAbs, Int.reduceToNat, reduceCtorEq, ey, ez, cutP_hi, cutP_lo, cutP_lo1, eP, eR, eS, List.length_append, b1, b2, b3, b4]
          exact q _ _ h4
    | _ =>
      simp only [↓kW, kP, String.reduceEq, Nat.reduceAdd, Nat.reduceSub, Nat.reduceMul, Nat.reducePow, Nat.reduceLT, Nat.reduceLeDiff, Nat.reduceEqDiff, Int.reduceAdd, Int.reduceSub, Int.reduceMul, Int.reduceNeg, Int.reducePow, Int.reduceLT, Int.reduceLE, Int.reduceEq, Int.reduceAbs, Int.reduceToNat, reduceCtorEq]
      refine odd_r (k := k) (by omega) (h.less (by omega)) fun r m1 h1 => ?_
      simp only [↓kW, kP, String.reduceEq, Nat.reduceAdd, Nat.reduceSub, Nat.reduceMul, Nat.reducePow, Nat.reduceLT, Nat.reduceLeDiff, Nat.reduceEqDiff, Int.reduceAdd, Int.reduceSub, Int.reduceMul, Int.reduceNeg, Int.reducePow, Int.reduceLT, Int.reduceLE, Int.reduceEq, Int.reduceAbs, Int.reduceToNat, reduceCtorEq]
      exact q _ _ h1

theorem lname {N : Nat} (h : 2 ≤ N) (d : PyData) : (fs N).law_is_name [B.v d] = some (.bool (nameB d), []) := by
  obtain ⟨n, rfl⟩ : ∃ n, N = n + 2 := ⟨N - 2, by omega⟩
  exact law_name_isok n d
theorem lnum {N : Nat} (h : 1 ≤ N) (d : PyData) : (fs N).law_is_num [B.v d] = some (.bool (numB d), []) := by
  obtain ⟨n, rfl⟩ : ∃ n, N = n + 1 := ⟨N - 1, by omega⟩
  exact law_num_isok n d
theorem lkind {N : Nat} (h : 8 ≤ N) (d : PyData) : (fs N).law_is_kind [B.v d, B.v (.int 6)] = some (.bool (kindB 6 d), []) := by
  obtain ⟨n, rfl⟩ : ∃ n, N = 6 + 2 + n := ⟨N - 8, by omega⟩
  exact lkind_ok 6 n d
theorem larg {N : Nat} {k : Int} {e : PyData → Bool} (hN : 2 ≤ N) (hE : ∀ x, (fs N).law_is_expression [B.v x, B.v (.int k)] = some (.bool (e x), [])) (d : PyData) : (fs (N + 1)).law_is_argument [B.v d, B.v (.int k)] = some (.bool (armB e d), []) := by
  refine of_wc ?_
  show wc (bodyFn [] 0 (b_law_is_argument (fs N))) _ _
  unfold b_law_is_argument
  cases d with
  | tuple xs =>
    match xs with
    | [m, x] =>
      cases m with
      | str z =>
        by_cases h1 : z = ("take" : Str)
        · subst h1
          simp only [↓kW, kP, String.reduceEq, Nat.reduceAdd, Nat.reduceSub, Nat.reduceMul, Nat.reducePow, Nat.reduceLT, Nat.reduceLeDiff, Nat.reduceEqDiff, Int.reduceAdd, Int.reduceSub, Int.reduceMul, Int.reduceNeg, Int.reducePow, Int.reduceLT, Int.reduceLE, Int.reduceEq, Int.reduceAbs, Int.reduceToNat, reduceCtorEq, wc_eq (hE x), armB]
        · simp only [↓kW, kP, String.reduceEq, Nat.reduceAdd, Nat.reduceSub, Nat.reduceMul, Nat.reducePow, Nat.reduceLT, Nat.reduceLeDiff, Nat.reduceEqDiff, Int.reduceAdd, Int.reduceSub, Int.reduceMul, Int.reduceNeg, Int.reducePow, Int.reduceLT, Int.reduceLE, Int.reduceEq, Int.reduceAbs, Int.reduceToNat, reduceCtorEq, h1, wc_eq (lname hN x)]
          have e1 : armB e (.tuple [.str z, x]) = ((decide (z = ("look" : Str)) || decide (z = ("alter" : Str))) && nameB x) := by simp [armB, h1]
          rw [e1]
          generalize (decide (z = ("look" : Str)) || decide (z = ("alter" : Str))) = b
          cases b <;> simp only [↓kW, kP, String.reduceEq, Nat.reduceAdd, Nat.reduceSub, Nat.reduceMul, Nat.reducePow, Nat.reduceLT, Nat.reduceLeDiff, Nat.reduceEqDiff, Int.reduceAdd, Int.reduceSub, Int.reduceMul, Int.reduceNeg, Int.reducePow, Int.reduceLT, Int.reduceLE, Int.reduceEq, Int.reduceAbs, Int.reduceToNat, reduceCtorEq, wc_eq (lname hN x)]
      | _ => simp only [↓kW, kP, String.reduceEq, Nat.reduceAdd, Nat.reduceSub, Nat.reduceMul, Nat.reducePow, Nat.reduceLT, Nat.reduceLeDiff, Nat.reduceEqDiff, Int.reduceAdd, Int.reduceSub, Int.reduceMul, Int.reduceNeg, Int.reducePow, Int.reduceLT, Int.reduceLE, Int.reduceEq, Int.reduceAbs, Int.reduceToNat, reduceCtorEq, armB]
    | [] => simp only [↓kW, kP, String.reduceEq, Nat.reduceAdd, Nat.reduceSub, Nat.reduceMul, Nat.reducePow, Nat.reduceLT, Nat.reduceLeDiff, Nat.reduceEqDiff, Int.reduceAdd, Int.reduceSub, Int.reduceMul, Int.reduceNeg, Int.reducePow, Int.reduceLT, Int.reduceLE, Int.reduceEq, Int.reduceAbs, Int.reduceToNat, reduceCtorEq, armB]
    | [_] => simp only [↓kW, kP, String.reduceEq, Nat.reduceAdd, Nat.reduceSub, Nat.reduceMul, Nat.reducePow, Nat.reduceLT, Nat.reduceLeDiff, Nat.reduceEqDiff, Int.reduceAdd, Int.reduceSub, Int.reduceMul, Int.reduceNeg, Int.reducePow, Int.reduceLT, Int.reduceLE, Int.reduceEq, Int.reduceAbs, Int.reduceToNat, reduceCtorEq, armB]
    | _ :: _ :: _ :: tl =>
      simp only [↓kW, kP, String.reduceEq, Nat.reduceAdd, Nat.reduceSub, Nat.reduceMul, Nat.reducePow, Nat.reduceLT, Nat.reduceLeDiff, Nat.reduceEqDiff, Int.reduceAdd, Int.reduceSub, Int.reduceMul, Int.reduceNeg, Int.reducePow, Int.reduceLT, Int.reduceLE, Int.reduceEq, Int.reduceAbs, Int.reduceToNat, reduceCtorEq, armB, show ¬ ((tl.length : Int) + 1 + 1 + 1 = 2) by omega]
  | _ => simp only [↓kW, kP, String.reduceEq, Nat.reduceAdd, Nat.reduceSub, Nat.reduceMul, Nat.reducePow, Nat.reduceLT, Nat.reduceLeDiff, Nat.reduceEqDiff, Int.reduceAdd, Int.reduceSub, Int.reduceMul, Int.reduceNeg, Int.reducePow, Int.reduceLT, Int.reduceLE, Int.reduceEq, Int.reduceAbs, Int.reduceToNat, reduceCtorEq, armB]

set_option maxHeartbeats 4000000 in
theorem lexpr_step {N : Nat} {k : Int} {e : PyData → Bool} (hk : 0 ≤ k) (hN : 8 ≤ N) (hE : ∀ M, N ≤ M + 1 → ∀ x, (fs M).law_is_expression [B.v x, B.v (.int k)] = some (.bool (e x), [])) (d : PyData) :
    (fs (N + 1)).law_is_expression [B.v d, B.v (.int (k + 1))] = some (.bool (exprS e d), []) := by
  refine of_wc ?_
  show wc (bodyFn [] 4 (b_law_is_expression (fs N))) _ _
  unfold b_law_is_expression
  have E := hE N (by omega)
  have k0 : ¬ (k + 1 = 0) := by omega
  have A : ∀ d, (fs N).law_is_argument [B.v d, B.v (.int k)] = some (.bool (armB e d), []) := fun d => by
    obtain ⟨n, rfl⟩ : ∃ n, N = n + 1 := ⟨N - 1, by omega⟩
    exact larg (by omega) (hE n (by omega)) d
  have NM := fun x => lname (N := N) (by omega) x
  have NU := fun x => lnum (N := N) (by omega) x
  have KI := fun x => lkind (N := N) (by omega) x
  cases d with
  | tuple ys =>
    cases ys with
    | nil => simp only [↓kW, kP, String.reduceEq, Nat.reduceAdd, Nat.reduceSub, Nat.reduceMul, Nat.reducePow, Nat.reduceLT, Nat.reduceLeDiff, Nat.reduceEqDiff, Int.reduceAdd, Int.reduceSub, Int.reduceMul, Int.reduceNeg, Int.reducePow, Int.reduceLT, Int.reduceLE, Int.reduceEq, Int.reduceAbs, Int.reduceToNat, reduceCtorEq, k0, exprS]
    | cons y xs =>
      cases y with
      | str w =>
        rw [show exprS e (.tuple (.str w :: xs)) = exprF e w xs from rfl]
        by_cases h0 : w = ("num" : Str)
        · subst h0
          match xs with
          | [] => simp only [↓kW, kP, String.reduceEq, Nat.reduceAdd, Nat.reduceSub, Nat.reduceMul, Nat.reducePow, Nat.reduceLT, Nat.reduceLeDiff, Nat.reduceEqDiff, Int.reduceAdd, Int.reduceSub, Int.reduceMul, Int.reduceNeg, Int.reducePow, Int.reduceLT, Int.reduceLE, Int.reduceEq, Int.reduceAbs, Int.reduceToNat, reduceCtorEq, k0, exprF]
          | [x] => simp only [↓kW, kP, String.reduceEq, Nat.reduceAdd, Nat.reduceSub, Nat.reduceMul, Nat.reducePow, Nat.reduceLT, Nat.reduceLeDiff, Nat.reduceEqDiff, Int.reduceAdd, Int.reduceSub, Int.reduceMul, Int.reduceNeg, Int.reducePow, Int.reduceLT, Int.reduceLE, Int.reduceEq, Int.reduceAbs, Int.reduceToNat, reduceCtorEq, k0, wc_eq (E x), wc_eq (NM x), wc_eq (NU x), exprF]
          | x :: y :: tl => simp only [↓kW, kP, String.reduceEq, Nat.reduceAdd, Nat.reduceSub, Nat.reduceMul, Nat.reducePow, Nat.reduceLT, Nat.reduceLeDiff, Nat.reduceEqDiff, Int.reduceAdd, Int.reduceSub, Int.reduceMul, Int.reduceNeg, Int.reducePow, Int.reduceLT, Int.reduceLE, Int.reduceEq, Int.reduceAbs, Int.reduceToNat, reduceCtorEq, k0, exprF, show ¬ ((tl.length : Int) + 1 + 1 + 1 = 2) by omega]
        by_cases h1 : w = ("name" : Str)
        · subst h1
          match xs with
          | [] => simp only [↓kW, kP, String.reduceEq, Nat.reduceAdd, Nat.reduceSub, Nat.reduceMul, Nat.reducePow, Nat.reduceLT, Nat.reduceLeDiff, Nat.reduceEqDiff, Int.reduceAdd, Int.reduceSub, Int.reduceMul, Int.reduceNeg, Int.reducePow, Int.reduceLT, Int.reduceLE, Int.reduceEq, Int.reduceAbs, Int.reduceToNat, reduceCtorEq, k0, exprF]
          | [x] => simp only [↓kW, kP, String.reduceEq, Nat.reduceAdd, Nat.reduceSub, Nat.reduceMul, Nat.reducePow, Nat.reduceLT, Nat.reduceLeDiff, Nat.reduceEqDiff, Int.reduceAdd, Int.reduceSub, Int.reduceMul, Int.reduceNeg, Int.reducePow, Int.reduceLT, Int.reduceLE, Int.reduceEq, Int.reduceAbs, Int.reduceToNat, reduceCtorEq, k0, wc_eq (E x), wc_eq (NM x), wc_eq (NU x), exprF]
          | x :: y :: tl => simp only [↓kW, kP, String.reduceEq, Nat.reduceAdd, Nat.reduceSub, Nat.reduceMul, Nat.reducePow, Nat.reduceLT, Nat.reduceLeDiff, Nat.reduceEqDiff, Int.reduceAdd, Int.reduceSub, Int.reduceMul, Int.reduceNeg, Int.reducePow, Int.reduceLT, Int.reduceLE, Int.reduceEq, Int.reduceAbs, Int.reduceToNat, reduceCtorEq, k0, exprF, show ¬ ((tl.length : Int) + 1 + 1 + 1 = 2) by omega]
        by_cases h2 : w = ("see" : Str)
        · subst h2
          match xs with
          | [] => simp only [↓kW, kP, String.reduceEq, Nat.reduceAdd, Nat.reduceSub, Nat.reduceMul, Nat.reducePow, Nat.reduceLT, Nat.reduceLeDiff, Nat.reduceEqDiff, Int.reduceAdd, Int.reduceSub, Int.reduceMul, Int.reduceNeg, Int.reducePow, Int.reduceLT, Int.reduceLE, Int.reduceEq, Int.reduceAbs, Int.reduceToNat, reduceCtorEq, k0, exprF]
          | [x] => simp only [↓kW, kP, String.reduceEq, Nat.reduceAdd, Nat.reduceSub, Nat.reduceMul, Nat.reducePow, Nat.reduceLT, Nat.reduceLeDiff, Nat.reduceEqDiff, Int.reduceAdd, Int.reduceSub, Int.reduceMul, Int.reduceNeg, Int.reducePow, Int.reduceLT, Int.reduceLE, Int.reduceEq, Int.reduceAbs, Int.reduceToNat, reduceCtorEq, k0, wc_eq (E x), wc_eq (NM x), wc_eq (NU x), exprF]
          | x :: y :: tl => simp only [↓kW, kP, String.reduceEq, Nat.reduceAdd, Nat.reduceSub, Nat.reduceMul, Nat.reducePow, Nat.reduceLT, Nat.reduceLeDiff, Nat.reduceEqDiff, Int.reduceAdd, Int.reduceSub, Int.reduceMul, Int.reduceNeg, Int.reducePow, Int.reduceLT, Int.reduceLE, Int.reduceEq, Int.reduceAbs, Int.reduceToNat, reduceCtorEq, k0, exprF, show ¬ ((tl.length : Int) + 1 + 1 + 1 = 2) by omega]
        by_cases h3 : w = ("peek" : Str)
        · subst h3
          match xs with
          | [] => simp only [↓kW, kP, String.reduceEq, Nat.reduceAdd, Nat.reduceSub, Nat.reduceMul, Nat.reducePow, Nat.reduceLT, Nat.reduceLeDiff, Nat.reduceEqDiff, Int.reduceAdd, Int.reduceSub, Int.reduceMul, Int.reduceNeg, Int.reducePow, Int.reduceLT, Int.reduceLE, Int.reduceEq, Int.reduceAbs, Int.reduceToNat, reduceCtorEq, k0, exprF]
          | [x] => simp only [↓kW, kP, String.reduceEq, Nat.reduceAdd, Nat.reduceSub, Nat.reduceMul, Nat.reducePow, Nat.reduceLT, Nat.reduceLeDiff, Nat.reduceEqDiff, Int.reduceAdd, Int.reduceSub, Int.reduceMul, Int.reduceNeg, Int.reducePow, Int.reduceLT, Int.reduceLE, Int.reduceEq, Int.reduceAbs, Int.reduceToNat, reduceCtorEq, k0, wc_eq (E x), wc_eq (NM x), wc_eq (NU x), exprF]
          | x :: y :: tl => simp only [↓kW, kP, String.reduceEq, Nat.reduceAdd, Nat.reduceSub, Nat.reduceMul, Nat.reducePow, Nat.reduceLT, Nat.reduceLeDiff, Nat.reduceEqDiff, Int.reduceAdd, Int.reduceSub, Int.reduceMul, Int.reduceNeg, Int.reducePow, Int.reduceLT, Int.reduceLE, Int.reduceEq, Int.reduceAbs, Int.reduceToNat, reduceCtorEq, k0, exprF, show ¬ ((tl.length : Int) + 1 + 1 + 1 = 2) by omega]
        by_cases h4 : w = ("box" : Str)
        · subst h4
          match xs with
          | [] => simp only [↓kW, kP, String.reduceEq, Nat.reduceAdd, Nat.reduceSub, Nat.reduceMul, Nat.reducePow, Nat.reduceLT, Nat.reduceLeDiff, Nat.reduceEqDiff, Int.reduceAdd, Int.reduceSub, Int.reduceMul, Int.reduceNeg, Int.reducePow, Int.reduceLT, Int.reduceLE, Int.reduceEq, Int.reduceAbs, Int.reduceToNat, reduceCtorEq, k0, exprF]
          | [x] => simp only [↓kW, kP, String.reduceEq, Nat.reduceAdd, Nat.reduceSub, Nat.reduceMul, Nat.reducePow, Nat.reduceLT, Nat.reduceLeDiff, Nat.reduceEqDiff, Int.reduceAdd, Int.reduceSub, Int.reduceMul, Int.reduceNeg, Int.reducePow, Int.reduceLT, Int.reduceLE, Int.reduceEq, Int.reduceAbs, Int.reduceToNat, reduceCtorEq, k0, wc_eq (E x), wc_eq (NM x), wc_eq (NU x), exprF]
          | x :: y :: tl => simp only [↓kW, kP, String.reduceEq, Nat.reduceAdd, Nat.reduceSub, Nat.reduceMul, Nat.reducePow, Nat.reduceLT, Nat.reduceLeDiff, Nat.reduceEqDiff, Int.reduceAdd, Int.reduceSub, Int.reduceMul, Int.reduceNeg, Int.reducePow, Int.reduceLT, Int.reduceLE, Int.reduceEq, Int.reduceAbs, Int.reduceToNat, reduceCtorEq, k0, exprF, show ¬ ((tl.length : Int) + 1 + 1 + 1 = 2) by omega]
        by_cases h5 : w = ("unbox" : Str)
        · subst h5
          match xs with
          | [] => simp only [↓kW, kP, String.reduceEq, Nat.reduceAdd, Nat.reduceSub, Nat.reduceMul, Nat.reducePow, Nat.reduceLT, Nat.reduceLeDiff, Nat.reduceEqDiff, Int.reduceAdd, Int.reduceSub, Int.reduceMul, Int.reduceNeg, Int.reducePow, Int.reduceLT, Int.reduceLE, Int.reduceEq, Int.reduceAbs, Int.reduceToNat, reduceCtorEq, k0, exprF]
          | [x] => simp only [↓kW, kP, String.reduceEq, Nat.reduceAdd, Nat.reduceSub, Nat.reduceMul, Nat.reducePow, Nat.reduceLT, Nat.reduceLeDiff, Nat.reduceEqDiff, Int.reduceAdd, Int.reduceSub, Int.reduceMul, Int.reduceNeg, Int.reducePow, Int.reduceLT, Int.reduceLE, Int.reduceEq, Int.reduceAbs, Int.reduceToNat, reduceCtorEq, k0, wc_eq (E x), wc_eq (NM x), wc_eq (NU x), exprF]
          | x :: y :: tl => simp only [↓kW, kP, String.reduceEq, Nat.reduceAdd, Nat.reduceSub, Nat.reduceMul, Nat.reducePow, Nat.reduceLT, Nat.reduceLeDiff, Nat.reduceEqDiff, Int.reduceAdd, Int.reduceSub, Int.reduceMul, Int.reduceNeg, Int.reducePow, Int.reduceLT, Int.reduceLE, Int.reduceEq, Int.reduceAbs, Int.reduceToNat, reduceCtorEq, k0, exprF, show ¬ ((tl.length : Int) + 1 + 1 + 1 = 2) by omega]
        by_cases h6 : w = ("loose" : Str)
        · subst h6
          match xs with
          | [] => simp only [↓kW, kP, String.reduceEq, Nat.reduceAdd, Nat.reduceSub, Nat.reduceMul, Nat.reducePow, Nat.reduceLT, Nat.reduceLeDiff, Nat.reduceEqDiff, Int.reduceAdd, Int.reduceSub, Int.reduceMul, Int.reduceNeg, Int.reducePow, Int.reduceLT, Int.reduceLE, Int.reduceEq, Int.reduceAbs, Int.reduceToNat, reduceCtorEq, k0, exprF]
          | [x] => simp only [↓kW, kP, String.reduceEq, Nat.reduceAdd, Nat.reduceSub, Nat.reduceMul, Nat.reducePow, Nat.reduceLT, Nat.reduceLeDiff, Nat.reduceEqDiff, Int.reduceAdd, Int.reduceSub, Int.reduceMul, Int.reduceNeg, Int.reducePow, Int.reduceLT, Int.reduceLE, Int.reduceEq, Int.reduceAbs, Int.reduceToNat, reduceCtorEq, k0, wc_eq (E x), wc_eq (NM x), wc_eq (NU x), exprF]
          | x :: y :: tl => simp only [↓kW, kP, String.reduceEq, Nat.reduceAdd, Nat.reduceSub, Nat.reduceMul, Nat.reducePow, Nat.reduceLT, Nat.reduceLeDiff, Nat.reduceEqDiff, Int.reduceAdd, Int.reduceSub, Int.reduceMul, Int.reduceNeg, Int.reducePow, Int.reduceLT, Int.reduceLE, Int.reduceEq, Int.reduceAbs, Int.reduceToNat, reduceCtorEq, k0, exprF, show ¬ ((tl.length : Int) + 1 + 1 + 1 = 2) by omega]
        by_cases h7 : w = ("op" : Str)
        · subst h7
          match xs with
          | [] => simp only [↓kW, kP, String.reduceEq, Nat.reduceAdd, Nat.reduceSub, Nat.reduceMul, Nat.reducePow, Nat.reduceLT, Nat.reduceLeDiff, Nat.reduceEqDiff, Int.reduceAdd, Int.reduceSub, Int.reduceMul, Int.reduceNeg, Int.reducePow, Int.reduceLT, Int.reduceLE, Int.reduceEq, Int.reduceAbs, Int.reduceToNat, reduceCtorEq, k0, exprF]
          | [x] => simp only [↓kW, kP, String.reduceEq, Nat.reduceAdd, Nat.reduceSub, Nat.reduceMul, Nat.reducePow, Nat.reduceLT, Nat.reduceLeDiff, Nat.reduceEqDiff, Int.reduceAdd, Int.reduceSub, Int.reduceMul, Int.reduceNeg, Int.reducePow, Int.reduceLT, Int.reduceLE, Int.reduceEq, Int.reduceAbs, Int.reduceToNat, reduceCtorEq, k0, exprF]
          | [x, y] => simp only [↓kW, kP, String.reduceEq, Nat.reduceAdd, Nat.reduceSub, Nat.reduceMul, Nat.reducePow, Nat.reduceLT, Nat.reduceLeDiff, Nat.reduceEqDiff, Int.reduceAdd, Int.reduceSub, Int.reduceMul, Int.reduceNeg, Int.reducePow, Int.reduceLT, Int.reduceLE, Int.reduceEq, Int.reduceAbs, Int.reduceToNat, reduceCtorEq, k0, exprF]
          | [x, y, z] =>
            cases x with
            | str s => 
              have SB : signB (.str s) = (decide (s = "+") || (decide (s = "-") || (decide (s = "*") || (decide (s = "/") || (decide (s = "<") || decide (s = "=")))))) := rfl
              simp only [↓kW, kP, String.reduceEq, Nat.reduceAdd, Nat.reduceSub, Nat.reduceMul, Nat.reducePow, Nat.reduceLT, Nat.reduceLeDiff, Nat.reduceEqDiff, Int.reduceAdd, Int.reduceSub, Int.reduceMul, Int.reduceNeg, Int.reducePow, Int.reduceLT, Int.reduceLE, Int.reduceEq, Int.reduceAbs, Int.reduceToNat, reduceCtorEq, k0, wc_eq (E y), wc_eq (E z), exprF, SB]
              generalize (decide (s = Str.ofString "+") || (decide (s = Str.ofString "-") || (decide (s = Str.ofString "*") || (decide (s = Str.ofString "/") || (decide (s = Str.ofString "<") || decide (s = Str.ofString "=")))))) = b
              cases b <;> simp only [↓kW, kP, String.reduceEq, Nat.reduceAdd, Nat.reduceSub, Nat.reduceMul, Nat.reducePow, Nat.reduceLT, Nat.reduceLeDiff, Nat.reduceEqDiff, Int.reduceAdd, Int.reduceSub, Int.reduceMul, Int.reduceNeg, Int.reducePow, Int.reduceLT, Int.reduceLE, Int.reduceEq, Int.reduceAbs, Int.reduceToNat, reduceCtorEq, wc_eq (E y)]
              cases e y <;> simp only [↓kW, kP, String.reduceEq, Nat.reduceAdd, Nat.reduceSub, Nat.reduceMul, Nat.reducePow, Nat.reduceLT, Nat.reduceLeDiff, Nat.reduceEqDiff, Int.reduceAdd, Int.reduceSub, Int.reduceMul, Int.reduceNeg, Int.reducePow, Int.reduceLT, Int.reduceLE, Int.reduceEq, Int.reduceAbs, Int.reduceToNat, reduceCtorEq, wc_eq (E z)]
            | _ => simp only [↓kW, kP, String.reduceEq, Nat.reduceAdd, Nat.reduceSub, Nat.reduceMul, Nat.reducePow, Nat.reduceLT, Nat.reduceLeDiff, Nat.reduceEqDiff, Int.reduceAdd, Int.reduceSub, Int.reduceMul, Int.reduceNeg, Int.reducePow, Int.reduceLT, Int.reduceLE, Int.reduceEq, Int.reduceAbs, Int.reduceToNat, reduceCtorEq, k0, exprF, signB]
          | x :: y :: z :: u :: tl => simp only [↓kW, kP, String.reduceEq, Nat.reduceAdd, Nat.reduceSub, Nat.reduceMul, Nat.reducePow, Nat.reduceLT, Nat.reduceLeDiff, Nat.reduceEqDiff, Int.reduceAdd, Int.reduceSub, Int.reduceMul, Int.reduceNeg, Int.reducePow, Int.reduceLT, Int.reduceLE, Int.reduceEq, Int.reduceAbs, Int.reduceToNat, reduceCtorEq, k0, exprF, show ¬ ((tl.length : Int) + 1 + 1 + 1 + 1 + 1 = 4) by omega]
        by_cases h8 : w = ("pair" : Str)
        · subst h8
          match xs with
          | [] => simp only [↓kW, kP, String.reduceEq, Nat.reduceAdd, Nat.reduceSub, Nat.reduceMul, Nat.reducePow, Nat.reduceLT, Nat.reduceLeDiff, Nat.reduceEqDiff, Int.reduceAdd, Int.reduceSub, Int.reduceMul, Int.reduceNeg, Int.reducePow, Int.reduceLT, Int.reduceLE, Int.reduceEq, Int.reduceAbs, Int.reduceToNat, reduceCtorEq, k0, exprF]
          | [x] => simp only [↓kW, kP, String.reduceEq, Nat.reduceAdd, Nat.reduceSub, Nat.reduceMul, Nat.reducePow, Nat.reduceLT, Nat.reduceLeDiff, Nat.reduceEqDiff, Int.reduceAdd, Int.reduceSub, Int.reduceMul, Int.reduceNeg, Int.reducePow, Int.reduceLT, Int.reduceLE, Int.reduceEq, Int.reduceAbs, Int.reduceToNat, reduceCtorEq, k0, exprF]
          | [x, y] =>
            simp only [↓kW, kP, String.reduceEq, Nat.reduceAdd, Nat.reduceSub, Nat.reduceMul, Nat.reducePow, Nat.reduceLT, Nat.reduceLeDiff, Nat.reduceEqDiff, Int.reduceAdd, Int.reduceSub, Int.reduceMul, Int.reduceNeg, Int.reducePow, Int.reduceLT, Int.reduceLE, Int.reduceEq, Int.reduceAbs, Int.reduceToNat, reduceCtorEq, k0]
            refine we_lcP (fun x => .bool (e x)) ?_
            simp only [↓kW, kP, String.reduceEq, Nat.reduceAdd, Nat.reduceSub, Nat.reduceMul, Nat.reducePow, Nat.reduceLT, Nat.reduceLeDiff, Nat.reduceEqDiff, Int.reduceAdd, Int.reduceSub, Int.reduceMul, Int.reduceNeg, Int.reducePow, Int.reduceLT, Int.reduceLE, Int.reduceEq, Int.reduceAbs, Int.reduceToNat, reduceCtorEq, cutP_1]
            refine ⟨fun d _ => ?_, ?_⟩
            · simp only [↓kW, kP, String.reduceEq, Nat.reduceAdd, Nat.reduceSub, Nat.reduceMul, Nat.reducePow, Nat.reduceLT, Nat.reduceLeDiff, Nat.reduceEqDiff, Int.reduceAdd, Int.reduceSub, Int.reduceMul, Int.reduceNeg, Int.reducePow, Int.reduceLT, Int.reduceLE, Int.reduceEq, Int.reduceAbs, Int.reduceToNat, reduceCtorEq, wc_eq (E d)]
            · simp only [↓kW, kP, String.reduceEq, Nat.reduceAdd, Nat.reduceSub, Nat.reduceMul, Nat.reducePow, Nat.reduceLT, Nat.reduceLeDiff, Nat.reduceEqDiff, Int.reduceAdd, Int.reduceSub, Int.reduceMul, Int.reduceNeg, Int.reducePow, Int.reduceLT, Int.reduceLE, Int.reduceEq, Int.reduceAbs, Int.reduceToNat, reduceCtorEq, exprF]
          | x :: y :: z :: tl => simp only [↓kW, kP, String.reduceEq, Nat.reduceAdd, Nat.reduceSub, Nat.reduceMul, Nat.reducePow, Nat.reduceLT, Nat.reduceLeDiff, Nat.reduceEqDiff, Int.reduceAdd, Int.reduceSub, Int.reduceMul, Int.reduceNeg, Int.reducePow, Int.reduceLT, Int.reduceLE, Int.reduceEq, Int.reduceAbs, Int.reduceToNat, reduceCtorEq, k0, exprF, show ¬ ((tl.length : Int) + 1 + 1 + 1 + 1 = 3) by omega]
        by_cases h9 : w = ("call" : Str)
        · subst h9
          match xs with
          | [] => simp only [↓kW, kP, String.reduceEq, Nat.reduceAdd, Nat.reduceSub, Nat.reduceMul, Nat.reducePow, Nat.reduceLT, Nat.reduceLeDiff, Nat.reduceEqDiff, Int.reduceAdd, Int.reduceSub, Int.reduceMul, Int.reduceNeg, Int.reducePow, Int.reduceLT, Int.reduceLE, Int.reduceEq, Int.reduceAbs, Int.reduceToNat, reduceCtorEq, k0, exprF]
          | [x] => simp only [↓kW, kP, String.reduceEq, Nat.reduceAdd, Nat.reduceSub, Nat.reduceMul, Nat.reducePow, Nat.reduceLT, Nat.reduceLeDiff, Nat.reduceEqDiff, Int.reduceAdd, Int.reduceSub, Int.reduceMul, Int.reduceNeg, Int.reducePow, Int.reduceLT, Int.reduceLE, Int.reduceEq, Int.reduceAbs, Int.reduceToNat, reduceCtorEq, k0, exprF]
          | [x, y] => simp only [↓kW, kP, String.reduceEq, Nat.reduceAdd, Nat.reduceSub, Nat.reduceMul, Nat.reducePow, Nat.reduceLT, Nat.reduceLeDiff, Nat.reduceEqDiff, Int.reduceAdd, Int.reduceSub, Int.reduceMul, Int.reduceNeg, Int.reducePow, Int.reduceLT, Int.reduceLE, Int.reduceEq, Int.reduceAbs, Int.reduceToNat, reduceCtorEq, k0, exprF]
          | [x, y, z] =>
            have KO : kindO y = (isNon y || kindB 6 y) := by cases y <;> rfl
            cases hb1 : nameB x with
            | false => simp only [↓kW, kP, String.reduceEq, Nat.reduceAdd, Nat.reduceSub, Nat.reduceMul, Nat.reducePow, Nat.reduceLT, Nat.reduceLeDiff, Nat.reduceEqDiff, Int.reduceAdd, Int.reduceSub, Int.reduceMul, Int.reduceNeg, Int.reducePow, Int.reduceLT, Int.reduceLE, Int.reduceEq, Int.reduceAbs, Int.reduceToNat, reduceCtorEq, k0, wc_eq (NM x), hb1, exprF]
            | true =>
            cases hb2 : isNon y with
            | true =>
              cases z with
              | tuple zs =>
                by_cases hl : zs.length ≤ 4
                · simp only [↓kW, kP, String.reduceEq, Nat.reduceAdd, Nat.reduceSub, Nat.reduceMul, Nat.reducePow, Nat.reduceLT, Nat.reduceLeDiff, Nat.reduceEqDiff, Int.reduceAdd, Int.reduceSub, Int.reduceMul, Int.reduceNeg, Int.reducePow, Int.reduceLT, Int.reduceLE, Int.reduceEq, Int.reduceAbs, Int.reduceToNat, reduceCtorEq, k0, wc_eq (NM x), wc_eq (KI y), exprF, KO, hb1, hb2, show ¬ (4 < (zs.length : Int)) by omega]
                  refine we_lcP (fun x => .bool (armB e x)) ?_
                  simp only [↓kW, kP, String.reduceEq, Nat.reduceAdd, Nat.reduceSub, Nat.reduceMul, Nat.reducePow, Nat.reduceLT, Nat.reduceLeDiff, Nat.reduceEqDiff, Int.reduceAdd, Int.reduceSub, Int.reduceMul, Int.reduceNeg, Int.reducePow, Int.reduceLT, Int.reduceLE, Int.reduceEq, Int.reduceAbs, Int.reduceToNat, reduceCtorEq]
                  refine ⟨fun d _ => ?_, ?_⟩
                  · simp only [↓kW, kP, String.reduceEq, Nat.reduceAdd, Nat.reduceSub, Nat.reduceMul, Nat.reducePow, Nat.reduceLT, Nat.reduceLeDiff, Nat.reduceEqDiff, Int.reduceAdd, Int.reduceSub, Int.reduceMul, Int.reduceNeg, Int.reducePow, Int.reduceLT, Int.reduceLE, Int.reduceEq, Int.reduceAbs, Int.reduceToNat, reduceCtorEq, wc_eq (A d)]
                  · simp only [↓kW, kP, String.reduceEq, Nat.reduceAdd, Nat.reduceSub, Nat.reduceMul, Nat.reducePow, Nat.reduceLT, Nat.reduceLeDiff, Nat.reduceEqDiff, Int.reduceAdd, Int.reduceSub, Int.reduceMul, Int.reduceNeg, Int.reducePow, Int.reduceLT, Int.reduceLE, Int.reduceEq, Int.reduceAbs, Int.reduceToNat, reduceCtorEq, allB_map, argsB, hl, List.all_map]
                    rfl
                · simp only [↓kW, kP, String.reduceEq, Nat.reduceAdd, Nat.reduceSub, Nat.reduceMul, Nat.reducePow, Nat.reduceLT, Nat.reduceLeDiff, Nat.reduceEqDiff, Int.reduceAdd, Int.reduceSub, Int.reduceMul, Int.reduceNeg, Int.reducePow, Int.reduceLT, Int.reduceLE, Int.reduceEq, Int.reduceAbs, Int.reduceToNat, reduceCtorEq, k0, wc_eq (NM x), wc_eq (KI y), exprF, KO, hb1, hb2, show (4 < (zs.length : Int)) by omega, hl, argsB]
              | _ => simp only [↓kW, kP, String.reduceEq, Nat.reduceAdd, Nat.reduceSub, Nat.reduceMul, Nat.reducePow, Nat.reduceLT, Nat.reduceLeDiff, Nat.reduceEqDiff, Int.reduceAdd, Int.reduceSub, Int.reduceMul, Int.reduceNeg, Int.reducePow, Int.reduceLT, Int.reduceLE, Int.reduceEq, Int.reduceAbs, Int.reduceToNat, reduceCtorEq, k0, wc_eq (NM x), wc_eq (KI y), exprF, KO, hb1, hb2, argsB]
            | false =>
            cases hb3 : kindB 6 y with
            | false => simp only [↓kW, kP, String.reduceEq, Nat.reduceAdd, Nat.reduceSub, Nat.reduceMul, Nat.reducePow, Nat.reduceLT, Nat.reduceLeDiff, Nat.reduceEqDiff, Int.reduceAdd, Int.reduceSub, Int.reduceMul, Int.reduceNeg, Int.reducePow, Int.reduceLT, Int.reduceLE, Int.reduceEq, Int.reduceAbs, Int.reduceToNat, reduceCtorEq, k0, wc_eq (NM x), wc_eq (KI y), exprF, KO, hb1, hb2, hb3]
            | true =>
              cases z with
              | tuple zs =>
                by_cases hl : zs.length ≤ 4
                · simp only [↓kW, kP, String.reduceEq, Nat.reduceAdd, Nat.reduceSub, Nat.reduceMul, Nat.reducePow, Nat.reduceLT, Nat.reduceLeDiff, Nat.reduceEqDiff, Int.reduceAdd, Int.reduceSub, Int.reduceMul, Int.reduceNeg, Int.reducePow, Int.reduceLT, Int.reduceLE, Int.reduceEq, Int.reduceAbs, Int.reduceToNat, reduceCtorEq, k0, wc_eq (NM x), wc_eq (KI y), exprF, KO, hb1, hb2, hb3, show ¬ (4 < (zs.length : Int)) by omega]
                  refine we_lcP (fun x => .bool (armB e x)) ?_
                  simp only [↓kW, kP, String.reduceEq, Nat.reduceAdd, Nat.reduceSub, Nat.reduceMul, Nat.reducePow, Nat.reduceLT, Nat.reduceLeDiff, Nat.reduceEqDiff, Int.reduceAdd, Int.reduceSub, Int.reduceMul, Int.reduceNeg, Int.reducePow, Int.reduceLT, Int.reduceLE, Int.reduceEq, Int.reduceAbs, Int.reduceToNat, reduceCtorEq]
                  refine ⟨fun d _ => ?_, ?_⟩
                  · simp only [↓kW, kP, String.reduceEq, Nat.reduceAdd, Nat.reduceSub, Nat.reduceMul, Nat.reducePow, Nat.reduceLT, Nat.reduceLeDiff, Nat.reduceEqDiff, Int.reduceAdd, Int.reduceSub, Int.reduceMul, Int.reduceNeg, Int.reducePow, Int.reduceLT, Int.reduceLE, Int.reduceEq, Int.reduceAbs, Int.reduceToNat, reduceCtorEq, wc_eq (A d)]
                  · simp only [↓kW, kP, String.reduceEq, Nat.reduceAdd, Nat.reduceSub, Nat.reduceMul, Nat.reducePow, Nat.reduceLT, Nat.reduceLeDiff, Nat.reduceEqDiff, Int.reduceAdd, Int.reduceSub, Int.reduceMul, Int.reduceNeg, Int.reducePow, Int.reduceLT, Int.reduceLE, Int.reduceEq, Int.reduceAbs, Int.reduceToNat, reduceCtorEq, allB_map, argsB, hl, List.all_map]
                    rfl
                · simp only [↓kW, kP, String.reduceEq, Nat.reduceAdd, Nat.reduceSub, Nat.reduceMul, Nat.reducePow, Nat.reduceLT, Nat.reduceLeDiff, Nat.reduceEqDiff, Int.reduceAdd, Int.reduceSub, Int.reduceMul, Int.reduceNeg, Int.reducePow, Int.reduceLT, Int.reduceLE, Int.reduceEq, Int.reduceAbs, Int.reduceToNat, reduceCtorEq, k0, wc_eq (NM x), wc_eq (KI y), exprF, KO, hb1, hb2, hb3, show (4 < (zs.length : Int)) by omega, hl, argsB]
              | _ => simp only [↓kW, kP, String.reduceEq, Nat.reduceAdd, Nat.reduceSub, Nat.reduceMul, Nat.reducePow, Nat.reduceLT, Nat.reduceLeDiff, Nat.reduceEqDiff, Int.reduceAdd, Int.reduceSub, Int.reduceMul, Int.reduceNeg, Int.reducePow, Int.reduceLT, Int.reduceLE, Int.reduceEq, Int.reduceAbs, Int.reduceToNat, reduceCtorEq, k0, wc_eq (NM x), wc_eq (KI y), exprF, KO, hb1, hb2, hb3, argsB]
          | x :: y :: z :: u :: tl => simp only [↓kW, kP, String.reduceEq, Nat.reduceAdd, Nat.reduceSub, Nat.reduceMul, Nat.reducePow, Nat.reduceLT, Nat.reduceLeDiff, Nat.reduceEqDiff, Int.reduceAdd, Int.reduceSub, Int.reduceMul, Int.reduceNeg, Int.reducePow, Int.reduceLT, Int.reduceLE, Int.reduceEq, Int.reduceAbs, Int.reduceToNat, reduceCtorEq, k0, exprF, show ¬ ((tl.length : Int) + 1 + 1 + 1 + 1 + 1 = 4) by omega]
        simp only [↓kW, kP, String.reduceEq, Nat.reduceAdd, Nat.reduceSub, Nat.reduceMul, Nat.reducePow, Nat.reduceLT, Nat.reduceLeDiff, Nat.reduceEqDiff, Int.reduceAdd, Int.reduceSub, Int.reduceMul, Int.reduceNeg, Int.reducePow, Int.reduceLT, Int.reduceLE, Int.reduceEq, Int.reduceAbs, Int.reduceToNat, reduceCtorEq, k0, h0, h1, h2, h3, h4, h5, h6, h7, h8, h9, exprF]
      | _ => simp only [↓kW, kP, String.reduceEq, Nat.reduceAdd, Nat.reduceSub, Nat.reduceMul, Nat.reducePow, Nat.reduceLT, Nat.reduceLeDiff, Nat.reduceEqDiff, Int.reduceAdd, Int.reduceSub, Int.reduceMul, Int.reduceNeg, Int.reducePow, Int.reduceLT, Int.reduceLE, Int.reduceEq, Int.reduceAbs, Int.reduceToNat, reduceCtorEq, k0, exprS]
  | _ => simp only [↓kW, kP, String.reduceEq, Nat.reduceAdd, Nat.reduceSub, Nat.reduceMul, Nat.reducePow, Nat.reduceLT, Nat.reduceLeDiff, Nat.reduceEqDiff, Int.reduceAdd, Int.reduceSub, Int.reduceMul, Int.reduceNeg, Int.reducePow, Int.reduceLT, Int.reduceLE, Int.reduceEq, Int.reduceAbs, Int.reduceToNat, reduceCtorEq, k0, exprS]

theorem exprS_eq (k : Nat) : exprS (exprB k) = exprB (k + 1) := by
  funext d
  cases d with
  | tuple xs => cases xs with
    | nil => rfl
    | cons x xs => cases x <;> rfl
  | _ => rfl
theorem pexpr : ∀ (k N : Nat), 11 * k + 2 ≤ N → ∀ x, (fs N).is_expression [B.v x, B.v (.int k)] = some (.bool (exprB k x), [])
  | 0, N, h, x => by
    obtain ⟨n, rfl⟩ : ∃ n, N = n + 2 := ⟨N - 2, by omega⟩
    exact expr_zero x
  | k + 1, N, h, x => by
    obtain ⟨j, rfl⟩ : ∃ j, N = (11 * k + 1) + 12 + j := ⟨N - (11 * k + 13), by omega⟩
    rw [← exprS_eq]
    exact expr_step (n := 11 * k + 1) (k := (k : Int)) (by omega) (fun j x => pexpr k _ (by omega) x) j x
theorem lexpr : ∀ (k N : Nat), 9 + 2 * k ≤ N → ∀ x, (fs N).law_is_expression [B.v x, B.v (.int k)] = some (.bool (exprB k x), [])
  | 0, N, h, x => by
    obtain ⟨n, rfl⟩ : ∃ n, N = n + 1 := ⟨N - 1, by omega⟩
    refine of_wc ?_
    show wc (bodyFn [] 4 (b_law_is_expression (fs n))) [B.v x, B.v (.int 0)] _
    unfold b_law_is_expression
    simp only [↓kW, kP, String.reduceEq, Nat.reduceAdd, Nat.reduceSub, Nat.reduceMul, Nat.reducePow, Nat.reduceLT, Nat.reduceLeDiff, Nat.reduceEqDiff, Int.reduceAdd, Int.reduceSub, Int.reduceMul, Int.reduceNeg, Int.reducePow, Int.reduceLT, Int.reduceLE, Int.reduceEq, Int.reduceAbs, Int.reduceToNat, reduceCtorEq, exprB]
  | k + 1, N, h, x => by
    obtain ⟨n, rfl⟩ : ∃ n, N = n + 1 := ⟨N - 1, by omega⟩
    rw [← exprS_eq]
    exact lexpr_step (N := n) (k := (k : Int)) (by omega) (by omega) (fun M hM x => lexpr k M (by omega) x) x
def isCallB : PyData → Bool
  | .tuple (.str w :: _) => decide (w = ("call" : Str))
  | _ => false
/-- a statement's part, by its form -/
def partS (bl : PyData → Bool) : PyData → PyData → Bool
  | .str s, x => if s = ("block" : Str) then bl x else if s = ("call" : Str) then exprB 5 x && isCallB x else partG (exprB 5) (.str s) x
  | _, _ => false
def stB (bl : PyData → Bool) : PyData → Bool
  | .tuple (.str w :: xs) => match tblLook t_STATEMENTS w with
    | some (.tuple fms) => decide (xs.length = fms.length) && (List.zipWith (partS bl) fms xs).all id
    | _ => false
  | _ => false
def blockB : Nat → PyData → Bool
  | 0, _ => false
  | k + 1, .tuple xs => xs.all (stB (blockB k))
  | _ + 1, _ => false
def formsS : List PyData := [.str "expression", .str "call", .str "num", .str "name"]
theorem part_call {N : Nat} (hN : 58 ≤ N) (x : PyData) : (fs (N + 1)).is_part [B.v (.str "call"), B.v x, B.v (.int 5)] = some (.bool (exprB 5 x && isCallB x), []) := by
  refine of_wc ?_
  show wc (bodyFn [] 0 (b_is_part (fs N))) _ _
  unfold b_is_part
  have E : ∀ x, (fs N).is_expression [B.v x, B.v (.int 5)] = some (.bool (exprB 5 x), []) := fun x => pexpr 5 N (by omega) x
  simp only [↓kW, kP, String.reduceEq, Nat.reduceAdd, Nat.reduceSub, Nat.reduceMul, Nat.reducePow, Nat.reduceLT, Nat.reduceLeDiff, Nat.reduceEqDiff, Int.reduceAdd, Int.reduceSub, Int.reduceMul, Int.reduceNeg, Int.reducePow, Int.reduceLT, Int.reduceLE, Int.reduceEq, Int.reduceAbs, Int.reduceToNat, reduceCtorEq, wc_eq (E x)]
  cases h : exprB 5 x with
  | false => simp only [↓kW, kP, String.reduceEq, Nat.reduceAdd, Nat.reduceSub, Nat.reduceMul, Nat.reducePow, Nat.reduceLT, Nat.reduceLeDiff, Nat.reduceEqDiff, Int.reduceAdd, Int.reduceSub, Int.reduceMul, Int.reduceNeg, Int.reducePow, Int.reduceLT, Int.reduceLE, Int.reduceEq, Int.reduceAbs, Int.reduceToNat, reduceCtorEq]
  | true =>
    obtain ⟨w, xs, rfl⟩ : ∃ w xs, x = .tuple (.str w :: xs) := by
      cases x with
      | tuple ys => cases ys with
        | nil => simp [exprB] at h
        | cons y ys => cases y <;> first | exact ⟨_, _, rfl⟩ | simp [exprB] at h
      | _ => simp [exprB] at h
    simp only [↓kW, kP, String.reduceEq, Nat.reduceAdd, Nat.reduceSub, Nat.reduceMul, Nat.reducePow, Nat.reduceLT, Nat.reduceLeDiff, Nat.reduceEqDiff, Int.reduceAdd, Int.reduceSub, Int.reduceMul, Int.reduceNeg, Int.reducePow, Int.reduceLT, Int.reduceLE, Int.reduceEq, Int.reduceAbs, Int.reduceToNat, reduceCtorEq, isCallB]
theorem partS_ok {N : Nat} (hN : 70 ≤ N) (f : PyData) (hf : f ∈ formsS) (bl : PyData → Bool) (x : PyData) : (fs N).is_part [B.v f, B.v x, B.v (.int 5)] = some (.bool (partS bl f x), []) := by
  obtain ⟨n, rfl⟩ : ∃ n, N = n + 10 := ⟨N - 10, by omega⟩
  simp only [formsS, List.mem_cons, List.not_mem_nil, or_false] at hf
  rcases hf with rfl | rfl | rfl | rfl
  · exact part_expr (n := n + 8) (k := 5) (fun x => pexpr 5 _ (by omega) x) x
  · exact part_call (N := n + 9) (by omega) x
  · exact part_num (n := n + 7) (k := 5) x
  · exact part_name (n := n + 8) (k := 5) x

theorem tbl_mem {t : List (Str × PyData)} {z : Str} {d : PyData} (h : tblLook t z = some d) : (z, d) ∈ t := by
  unfold tblLook at h
  split at h
  · rename_i p hp
    cases h
    have h1 := List.find?_some hp
    have h2 := List.mem_of_find?_eq_some hp
    rw [← of_decide_eq_true h1]
    exact h2
  · cases h
def formOk : PyData → Bool
  | .str s => decide (s = ("block" : Str)) || decide (s = ("expression" : Str)) || decide (s = ("call" : Str)) || decide (s = ("num" : Str)) || decide (s = ("name" : Str))
  | _ => false
theorem formOk_or {f : PyData} (h : formOk f = true) : f = .str "block" ∨ (f ∈ formsS ∧ f ≠ .str "block") := by
  cases f with
  | str s =>
    simp only [formOk, Bool.or_eq_true, decide_eq_true_eq] at h
    rcases h with (((rfl | rfl) | rfl) | rfl) | rfl
    · exact .inl rfl
    all_goals exact .inr ⟨by simp [formsS], by simp only [ne_eq, PyData.str.injEq]; decide⟩
  | _ => simp [formOk] at h
theorem stTable {w : Str} {v : PyData} (h : tblLook t_STATEMENTS w = some v) : ∃ fms, v = .tuple fms ∧ ∀ f ∈ fms, f = .str "block" ∨ (f ∈ formsS ∧ f ≠ .str "block") := by
  have ok : t_STATEMENTS.all (fun p => match p.2 with | .tuple fms => fms.all formOk | _ => false) = true := by decide +kernel
  have h1 := List.all_eq_true.mp ok _ (tbl_mem h)
  cases v with
  | tuple fms => exact ⟨fms, rfl, fun f hf => formOk_or (List.all_eq_true.mp h1 f hf)⟩
  | _ => simp at h1
theorem first_w {N : Nat} (h : 1 ≤ N) (d : PyData) : (fs N).first_word [B.v d] = some (.str (fw d), []) := by
  obtain ⟨n, rfl⟩ : ∃ n, N = n + 1 := ⟨N - 1, by omega⟩
  exact first_ok n d
theorem zipT_mem {fms xs : List PyData} {d : PyData} (h : d ∈ List.zipWith (fun x y => PyData.tuple [x, y]) fms xs) : ∃ f x, d = .tuple [f, x] ∧ f ∈ fms := by
  obtain ⟨i, hi, e⟩ := List.mem_iff_getElem.mp h
  rw [List.getElem_zipWith] at e
  exact ⟨_, _, e.symm, List.getElem_mem _⟩
def pairB (g : PyData → PyData → Bool) : PyData → Bool
  | .tuple [f, x] => g f x
  | _ => true
theorem zipT_all (g : PyData → PyData → Bool) : ∀ (fms xs : List PyData), (List.zipWith g fms xs).all id = (List.zipWith (fun x y => PyData.tuple [x, y]) fms xs).all (pairB g)
  | [], _ => by simp
  | _ :: _, [] => by simp
  | f :: fms, x :: xs => by
    rw [List.zipWith_cons_cons, List.zipWith_cons_cons, List.all_cons, List.all_cons, zipT_all g fms xs]
    rfl
theorem stmt_ok {N : Nat} {k : Int} {bl : PyData → Bool} (hN : 70 ≤ N) (hB : ∀ x, (fs N).is_block [B.v x, B.v (.int k)] = some (.bool (bl x), [])) (d : PyData) : (fs (N + 1)).is_statement [B.v d, B.v (.int k)] = some (.bool (stB bl d), []) := by
  have FW := first_w (N := N) (by omega) d
  refine of_wc ?_
  show wc (bodyFn [] 3 (b_is_statement (fs N))) _ _
  unfold b_is_statement
  have no : tblLook t_STATEMENTS (fw d) = none → stB bl d = false := fun h => by
    unfold stB
    split
    · rename_i w xs; rw [show tblLook t_STATEMENTS w = none from h]
    · rfl
  cases hl : tblLook t_STATEMENTS (fw d) with
  | none => simp only [↓kW, kP, String.reduceEq, Nat.reduceAdd, Nat.reduceSub, Nat.reduceMul, Nat.reducePow, Nat.reduceLT, Nat.reduceLeDiff, Nat.reduceEqDiff, Int.reduceAdd, Int.reduceSub, Int.reduceMul, Int.reduceNeg, Int.reducePow, Int.reduceLT, Int.reduceLE, Int.reduceEq, Int.reduceAbs, Int.reduceToNat, reduceCtorEq, wc_eq FW, hl, no hl]
  | some v =>
    obtain ⟨fms, rfl, hf⟩ := stTable hl
    obtain ⟨w, xs, rfl⟩ : ∃ w xs, d = .tuple (.str w :: xs) := by
      have ne : tblLook t_STATEMENTS ("" : Str) = none := by decide +kernel
      cases d with
      | tuple ys => cases ys with
        | nil => rw [show fw (.tuple []) = ("" : Str) from rfl, ne] at hl; cases hl
        | cons y ys => cases y <;> first | exact ⟨_, _, rfl⟩ | (rw [show fw _ = ("" : Str) from rfl, ne] at hl; cases hl)
      | _ => rw [show fw _ = ("" : Str) from rfl, ne] at hl; cases hl
    have hl' : tblLook t_STATEMENTS w = some (.tuple fms) := hl
    by_cases hlen : xs.length = fms.length
    · simp only [↓kW, kP, String.reduceEq, Nat.reduceAdd, Nat.reduceSub, Nat.reduceMul, Nat.reducePow, Nat.reduceLT, Nat.reduceLeDiff, Nat.reduceEqDiff, Int.reduceAdd, Int.reduceSub, Int.reduceMul, Int.reduceNeg, Int.reducePow, Int.reduceLT, Int.reduceLE, Int.reduceEq, Int.reduceAbs, Int.reduceToNat, reduceCtorEq, wc_eq FW, hl, show fw (.tuple (.str w :: xs)) = w from rfl, hl', show ((xs.length : Int) + 1 = 1 + (fms.length : Int)) by omega]
      refine ws_forD (fun l r E => (∃ a b, E = [B.v (.tuple (.str w :: xs)), B.v (.int k), B.v (.str w), a, b]) ∧ l.all (pairB (partS bl)) = true) ?_
      have ev : stB bl (.tuple (.str w :: xs)) = (List.zipWith (fun x y => PyData.tuple [x, y]) fms xs).all (pairB (partS bl)) := by
        rw [← zipT_all]
        simp [stB, hl', hlen]
      rw [ev]
      simp only [↓kW, kP, String.reduceEq, Nat.reduceAdd, Nat.reduceSub, Nat.reduceMul, Nat.reducePow, Nat.reduceLT, Nat.reduceLeDiff, Nat.reduceEqDiff, Int.reduceAdd, Int.reduceSub, Int.reduceMul, Int.reduceNeg, Int.reducePow, Int.reduceLT, Int.reduceLE, Int.reduceEq, Int.reduceAbs, Int.reduceToNat, reduceCtorEq, hl', cutP_1]
      refine ⟨⟨_, _, rfl⟩, ?_, ?_⟩
      · rintro l d r E e ⟨⟨a, b, rfl⟩, hl⟩
        obtain ⟨f, x, rfl, hfm⟩ := zipT_mem (d := d) (fms := fms) (xs := xs) (by rw [e]; simp)
        refine ⟨_, rfl, ?_⟩
        have keyT : partS bl f x = true → (∃ a b, [B.v (.tuple (.str w :: xs)), B.v (.int k), B.v (.str w), B.v f, B.v x] = [B.v (.tuple (.str w :: xs)), B.v (.int k), B.v (.str w), a, b]) ∧ (l ++ [PyData.tuple [f, x]]).all (pairB (partS bl)) = true := fun hg => by
          refine ⟨⟨_, _, rfl⟩, ?_⟩
          rw [List.all_append, hl, List.all_cons]
          show (true && (partS bl f x && true)) = true
          rw [hg]; rfl
        have keyF : partS bl f x = false → false = (List.zipWith (fun x y => PyData.tuple [x, y]) fms xs).all (pairB (partS bl)) := fun hg => by
          rw [e, List.all_append, List.all_cons, show pairB (partS bl) (.tuple [f, x]) = partS bl f x from rfl, hg]
          simp
        rcases hf f hfm with rfl | ⟨h1, h2⟩
        · have ep : partS bl (.str "block") x = bl x := by simp [partS]
          rw [ep] at keyT keyF
          cases hb : bl x with
          | true => simp only [↓kW, kP, String.reduceEq, Nat.reduceAdd, Nat.reduceSub, Nat.reduceMul, Nat.reducePow, Nat.reduceLT, Nat.reduceLeDiff, Nat.reduceEqDiff, Int.reduceAdd, Int.reduceSub, Int.reduceMul, Int.reduceNeg, Int.reducePow, Int.reduceLT, Int.reduceLE, Int.reduceEq, Int.reduceAbs, Int.reduceToNat, reduceCtorEq, wc_eq (hB x), hb]; exact keyT hb
          | false => simp only [↓kW, kP, String.reduceEq, Nat.reduceAdd, Nat.reduceSub, Nat.reduceMul, Nat.reducePow, Nat.reduceLT, Nat.reduceLeDiff, Nat.reduceEqDiff, Int.reduceAdd, Int.reduceSub, Int.reduceMul, Int.reduceNeg, Int.reducePow, Int.reduceLT, Int.reduceLE, Int.reduceEq, Int.reduceAbs, Int.reduceToNat, reduceCtorEq, wc_eq (hB x), hb]; exact keyF hb
        · have h3 : ∀ s, f = .str s → ¬ (s = ("block" : Str)) := fun s e h => h2 (by rw [e, h])
          obtain ⟨s, rfl⟩ : ∃ s, f = .str s := by
            simp only [formsS, List.mem_cons, List.not_mem_nil, or_false] at h1
            rcases h1 with h | h | h | h <;> exact ⟨_, h⟩
          cases hb : partS bl (.str s) x with
          | true => simp only [↓kW, kP, String.reduceEq, Nat.reduceAdd, Nat.reduceSub, Nat.reduceMul, Nat.reducePow, Nat.reduceLT, Nat.reduceLeDiff, Nat.reduceEqDiff, Int.reduceAdd, Int.reduceSub, Int.reduceMul, Int.reduceNeg, Int.reducePow, Int.reduceLT, Int.reduceLE, Int.reduceEq, Int.reduceAbs, Int.reduceToNat, reduceCtorEq, wc_eq (partS_ok (N := N) hN _ h1 bl x), h3 s rfl, hb]; exact keyT hb
          | false => simp only [↓kW, kP, String.reduceEq, Nat.reduceAdd, Nat.reduceSub, Nat.reduceMul, Nat.reducePow, Nat.reduceLT, Nat.reduceLeDiff, Nat.reduceEqDiff, Int.reduceAdd, Int.reduceSub, Int.reduceMul, Int.reduceNeg, Int.reducePow, Int.reduceLT, Int.reduceLE, Int.reduceEq, Int.reduceAbs, Int.reduceToNat, reduceCtorEq, wc_eq (partS_ok (N := N) hN _ h1 bl x), h3 s rfl, hb]; exact keyF hb
      · rintro E ⟨⟨a, b, rfl⟩, hl⟩
        exact hl.symm
    · simp only [↓kW, kP, String.reduceEq, Nat.reduceAdd, Nat.reduceSub, Nat.reduceMul, Nat.reducePow, Nat.reduceLT, Nat.reduceLeDiff, Nat.reduceEqDiff, Int.reduceAdd, Int.reduceSub, Int.reduceMul, Int.reduceNeg, Int.reducePow, Int.reduceLT, Int.reduceLE, Int.reduceEq, Int.reduceAbs, Int.reduceToNat, reduceCtorEq, wc_eq FW, hl, show fw (.tuple (.str w :: xs)) = w from rfl, hl', show ¬ ((xs.length : Int) + 1 = 1 + (fms.length : Int)) by omega, stB, hlen]

theorem block_ok : ∀ (k N : Nat), 72 + 2 * k ≤ N → ∀ d, (fs N).is_block [B.v d, B.v (.int k)] = some (.bool (blockB k d), [])
  | 0, N, h, d => by
    obtain ⟨n, rfl⟩ : ∃ n, N = n + 1 := ⟨N - 1, by omega⟩
    refine of_wc ?_
    show wc (bodyFn [] 1 (b_is_block (fs n))) [B.v d, B.v (.int 0)] _
    unfold b_is_block
    simp only [↓kW, kP, String.reduceEq, Nat.reduceAdd, Nat.reduceSub, Nat.reduceMul, Nat.reducePow, Nat.reduceLT, Nat.reduceLeDiff, Nat.reduceEqDiff, Int.reduceAdd, Int.reduceSub, Int.reduceMul, Int.reduceNeg, Int.reducePow, Int.reduceLT, Int.reduceLE, Int.reduceEq, Int.reduceAbs, Int.reduceToNat, reduceCtorEq, blockB]
  | k + 1, N, h, d => by
    obtain ⟨n, rfl⟩ : ∃ n, N = n + 2 := ⟨N - 2, by omega⟩
    have S := stmt_ok (N := n) (by omega) (block_ok k n (by omega))
    refine of_wc ?_
    show wc (bodyFn [] 1 (b_is_block (fs (n + 1)))) [B.v d, B.v (.int ((k : Int) + 1))] _
    unfold b_is_block
    cases d with
    | tuple xs =>
      simp only [↓kW, kP, String.reduceEq, Nat.reduceAdd, Nat.reduceSub, Nat.reduceMul, Nat.reducePow, Nat.reduceLT, Nat.reduceLeDiff, Nat.reduceEqDiff, Int.reduceAdd, Int.reduceSub, Int.reduceMul, Int.reduceNeg, Int.reducePow, Int.reduceLT, Int.reduceLE, Int.reduceEq, Int.reduceAbs, Int.reduceToNat, reduceCtorEq, show ¬ ((k : Int) + 1 = 0) by omega]
      refine we_lcP (fun x => .bool (stB (blockB k) x)) ?_
      simp only [↓kW, kP, String.reduceEq, Nat.reduceAdd, Nat.reduceSub, Nat.reduceMul, Nat.reducePow, Nat.reduceLT, Nat.reduceLeDiff, Nat.reduceEqDiff, Int.reduceAdd, Int.reduceSub, Int.reduceMul, Int.reduceNeg, Int.reducePow, Int.reduceLT, Int.reduceLE, Int.reduceEq, Int.reduceAbs, Int.reduceToNat, reduceCtorEq]
      refine ⟨fun d _ => ?_, ?_⟩
      · simp only [↓kW, kP, String.reduceEq, Nat.reduceAdd, Nat.reduceSub, Nat.reduceMul, Nat.reducePow, Nat.reduceLT, Nat.reduceLeDiff, Nat.reduceEqDiff, Int.reduceAdd, Int.reduceSub, Int.reduceMul, Int.reduceNeg, Int.reducePow, Int.reduceLT, Int.reduceLE, Int.reduceEq, Int.reduceAbs, Int.reduceToNat, reduceCtorEq, wc_eq (S d)]
      · simp only [↓kW, kP, String.reduceEq, Nat.reduceAdd, Nat.reduceSub, Nat.reduceMul, Nat.reducePow, Nat.reduceLT, Nat.reduceLeDiff, Nat.reduceEqDiff, Int.reduceAdd, Int.reduceSub, Int.reduceMul, Int.reduceNeg, Int.reducePow, Int.reduceLT, Int.reduceLE, Int.reduceEq, Int.reduceAbs, Int.reduceToNat, reduceCtorEq, allB_map, blockB, List.all_map]
        rfl
    | _ => simp only [↓kW, kP, String.reduceEq, Nat.reduceAdd, Nat.reduceSub, Nat.reduceMul, Nat.reducePow, Nat.reduceLT, Nat.reduceLeDiff, Nat.reduceEqDiff, Int.reduceAdd, Int.reduceSub, Int.reduceMul, Int.reduceNeg, Int.reducePow, Int.reduceLT, Int.reduceLE, Int.reduceEq, Int.reduceAbs, Int.reduceToNat, reduceCtorEq, blockB, show ¬ ((k : Int) + 1 = 0) by omega]

def paramB : PyData → Bool
  | .tuple [m, n, k] => modeB m && (nameB n && kindB 6 k)
  | _ => false
def bodyB : PyData → Bool
  | .tuple [n, .bool _, .tuple ps, g, b] => nameB n && (decide (ps.length ≤ 4) && (ps.all paramB && (kindB 6 g && blockB 5 b)))
  | _ => false
def programB : PyData → Bool
  | .tuple (b :: bs) => (b :: bs).all bodyB
  | _ => false
theorem mode_w {N : Nat} (h : 1 ≤ N) (d : PyData) : (fs N).is_mode [B.v d] = some (.bool (modeB d), []) := by
  obtain ⟨n, rfl⟩ : ∃ n, N = n + 1 := ⟨N - 1, by omega⟩
  exact mode_ok n d
theorem name_w {N : Nat} (h : 1 ≤ N) (d : PyData) : (fs N).is_name [B.v d] = some (.bool (nameB d), []) := by
  obtain ⟨n, rfl⟩ : ∃ n, N = n + 1 := ⟨N - 1, by omega⟩
  exact name_isok n d
theorem kind_w {N : Nat} (h : 9 ≤ N) (d : PyData) : (fs N).is_kind [B.v d] = some (.bool (kindB 6 d), []) := by
  obtain ⟨n, rfl⟩ : ∃ n, N = 9 + n := ⟨N - 9, by omega⟩
  exact is_kind_ok n d
theorem row_w {N : Nat} (h : 1 ≤ N) (d : PyData) (k : Nat) : (fs N).is_row_of [B.v d, B.v (.int k)] = some (.bool (rowB d k), []) := by
  obtain ⟨n, rfl⟩ : ∃ n, N = n + 1 := ⟨N - 1, by omega⟩
  exact row_ok n d k
theorem param_ok {N : Nat} (h : 10 ≤ N) (d : PyData) : (fs N).is_param [B.v d] = some (.bool (paramB d), []) := by
  obtain ⟨n, rfl⟩ : ∃ n, N = n + 1 := ⟨N - 1, by omega⟩
  refine of_wc ?_
  show wc (bodyFn [] 0 (b_is_param (fs n))) [B.v d] _
  have R := row_w (N := n) (by omega) d 3
  have R' : (fs n).is_row_of [B.v d, B.v (.int 3)] = some (.bool (rowB d 3), []) := R
  unfold b_is_param
  cases d with
  | tuple xs =>
    match xs with
    | [m, z, k] =>
      cases hm : modeB m <;> cases hz : nameB z <;> cases hk : kindB 6 k <;> simp only [↓kW, kP, String.reduceEq, Nat.reduceAdd, Nat.reduceSub, Nat.reduceMul, Nat.reducePow, Nat.reduceLT, Nat.reduceLeDiff, Nat.reduceEqDiff, Int.reduceAdd, Int.reduceSub, Int.reduceMul, Int.reduceNeg, Int.reducePow, Int.reduceLT, Int.reduceLE, Int.reduceEq, Int.reduceAbs, Int.reduceToNat, reduceCtorEq, wc_eq R', rowB, wc_eq (mode_w (N := n) (by omega) m), wc_eq (name_w (N := n) (by omega) z), wc_eq (kind_w (N := n) (by omega) k), paramB, hm, hz, hk]
    | [] => simp only [↓kW, kP, String.reduceEq, Nat.reduceAdd, Nat.reduceSub, Nat.reduceMul, Nat.reducePow, Nat.reduceLT, Nat.reduceLeDiff, Nat.reduceEqDiff, Int.reduceAdd, Int.reduceSub, Int.reduceMul, Int.reduceNeg, Int.reducePow, Int.reduceLT, Int.reduceLE, Int.reduceEq, Int.reduceAbs, Int.reduceToNat, reduceCtorEq, wc_eq R', rowB, paramB]
    | [_] => simp only [↓kW, kP, String.reduceEq, Nat.reduceAdd, Nat.reduceSub, Nat.reduceMul, Nat.reducePow, Nat.reduceLT, Nat.reduceLeDiff, Nat.reduceEqDiff, Int.reduceAdd, Int.reduceSub, Int.reduceMul, Int.reduceNeg, Int.reducePow, Int.reduceLT, Int.reduceLE, Int.reduceEq, Int.reduceAbs, Int.reduceToNat, reduceCtorEq, wc_eq R', rowB, paramB]
    | [_, _] => simp only [↓kW, kP, String.reduceEq, Nat.reduceAdd, Nat.reduceSub, Nat.reduceMul, Nat.reducePow, Nat.reduceLT, Nat.reduceLeDiff, Nat.reduceEqDiff, Int.reduceAdd, Int.reduceSub, Int.reduceMul, Int.reduceNeg, Int.reducePow, Int.reduceLT, Int.reduceLE, Int.reduceEq, Int.reduceAbs, Int.reduceToNat, reduceCtorEq, wc_eq R', rowB, paramB]
    | _ :: _ :: _ :: _ :: tl => simp only [↓kW, kP, String.reduceEq, Nat.reduceAdd, Nat.reduceSub, Nat.reduceMul, Nat.reducePow, Nat.reduceLT, Nat.reduceLeDiff, Nat.reduceEqDiff, Int.reduceAdd, Int.reduceSub, Int.reduceMul, Int.reduceNeg, Int.reducePow, Int.reduceLT, Int.reduceLE, Int.reduceEq, Int.reduceAbs, Int.reduceToNat, reduceCtorEq, wc_eq R', rowB, paramB, show ¬ (tl.length + 1 + 1 + 1 + 1 = 3) by omega]
  | _ => simp only [↓kW, kP, String.reduceEq, Nat.reduceAdd, Nat.reduceSub, Nat.reduceMul, Nat.reducePow, Nat.reduceLT, Nat.reduceLeDiff, Nat.reduceEqDiff, Int.reduceAdd, Int.reduceSub, Int.reduceMul, Int.reduceNeg, Int.reducePow, Int.reduceLT, Int.reduceLE, Int.reduceEq, Int.reduceAbs, Int.reduceToNat, reduceCtorEq, wc_eq R', rowB, paramB]
theorem body_ok {N : Nat} (h : 83 ≤ N) (d : PyData) : (fs N).is_body [B.v d] = some (.bool (bodyB d), []) := by
  obtain ⟨n, rfl⟩ : ∃ n, N = n + 1 := ⟨N - 1, by omega⟩
  refine of_wc ?_
  show wc (bodyFn [] 6 (b_is_body (fs n))) [B.v d] _
  have R : (fs n).is_row_of [B.v d, B.v (.int 5)] = some (.bool (rowB d 5), []) := row_w (N := n) (by omega) d 5
  unfold b_is_body
  cases d with
  | tuple xs =>
    match xs with
    | [a, l, p, g, b] =>
      have NA := name_w (N := n) (by omega) a
      have KA := kind_w (N := n) (by omega) g
      have BL : (fs n).is_block [B.v b, B.v (.int 5)] = some (.bool (blockB 5 b), []) := block_ok 5 n (by omega) b
      cases hn : nameB a with
      | false => cases l <;> cases p <;> simp only [↓kW, kP, String.reduceEq, Nat.reduceAdd, Nat.reduceSub, Nat.reduceMul, Nat.reducePow, Nat.reduceLT, Nat.reduceLeDiff, Nat.reduceEqDiff, Int.reduceAdd, Int.reduceSub, Int.reduceMul, Int.reduceNeg, Int.reducePow, Int.reduceLT, Int.reduceLE, Int.reduceEq, Int.reduceAbs, Int.reduceToNat, reduceCtorEq, wc_eq R, rowB, wc_eq NA, hn, bodyB]
      | true =>
      cases l with
      | bool lb =>
        cases p with
        | tuple ps =>
          have bb : bodyB (.tuple [a, .bool lb, .tuple ps, g, b]) = (nameB a && (decide (ps.length ≤ 4) && (ps.all paramB && (kindB 6 g && blockB 5 b)))) := rfl
          rw [bb]
          by_cases hl : ps.length ≤ 4
          · simp only [↓kW, kP, String.reduceEq, Nat.reduceAdd, Nat.reduceSub, Nat.reduceMul, Nat.reducePow, Nat.reduceLT, Nat.reduceLeDiff, Nat.reduceEqDiff, Int.reduceAdd, Int.reduceSub, Int.reduceMul, Int.reduceNeg, Int.reducePow, Int.reduceLT, Int.reduceLE, Int.reduceEq, Int.reduceAbs, Int.reduceToNat, reduceCtorEq, wc_eq R, rowB, wc_eq NA, hn, show ¬ (4 < (ps.length : Int)) by omega, hl]
            refine we_lcP (fun x => .bool (paramB x)) ?_
            simp only [↓kW, kP, String.reduceEq, Nat.reduceAdd, Nat.reduceSub, Nat.reduceMul, Nat.reducePow, Nat.reduceLT, Nat.reduceLeDiff, Nat.reduceEqDiff, Int.reduceAdd, Int.reduceSub, Int.reduceMul, Int.reduceNeg, Int.reducePow, Int.reduceLT, Int.reduceLE, Int.reduceEq, Int.reduceAbs, Int.reduceToNat, reduceCtorEq]
            refine ⟨fun d _ => ?_, ?_⟩
            · simp only [↓kW, kP, String.reduceEq, Nat.reduceAdd, Nat.reduceSub, Nat.reduceMul, Nat.reducePow, Nat.reduceLT, Nat.reduceLeDiff, Nat.reduceEqDiff, Int.reduceAdd, Int.reduceSub, Int.reduceMul, Int.reduceNeg, Int.reducePow, Int.reduceLT, Int.reduceLE, Int.reduceEq, Int.reduceAbs, Int.reduceToNat, reduceCtorEq, wc_eq (param_ok (N := n) (by omega) d)]
            · simp only [↓kW, kP, String.reduceEq, Nat.reduceAdd, Nat.reduceSub, Nat.reduceMul, Nat.reducePow, Nat.reduceLT, Nat.reduceLeDiff, Nat.reduceEqDiff, Int.reduceAdd, Int.reduceSub, Int.reduceMul, Int.reduceNeg, Int.reducePow, Int.reduceLT, Int.reduceLE, Int.reduceEq, Int.reduceAbs, Int.reduceToNat, reduceCtorEq, allB_map, List.all_map, wc_eq KA, wc_eq BL]
              rw [show id ∘ paramB = paramB from rfl]
              cases ps.all paramB <;> cases hk : kindB 6 g <;> cases hb : blockB 5 b <;> simp only [↓kW, kP, String.reduceEq, Nat.reduceAdd, Nat.reduceSub, Nat.reduceMul, Nat.reducePow, Nat.reduceLT, Nat.reduceLeDiff, Nat.reduceEqDiff, Int.reduceAdd, Int.reduceSub, Int.reduceMul, Int.reduceNeg, Int.reducePow, Int.reduceLT, Int.reduceLE, Int.reduceEq, Int.reduceAbs, Int.reduceToNat, reduceCtorEq, wc_eq KA, wc_eq BL, hk, hb]
          · simp only [↓kW, kP, String.reduceEq, Nat.reduceAdd, Nat.reduceSub, Nat.reduceMul, Nat.reducePow, Nat.reduceLT, Nat.reduceLeDiff, Nat.reduceEqDiff, Int.reduceAdd, Int.reduceSub, Int.reduceMul, Int.reduceNeg, Int.reducePow, Int.reduceLT, Int.reduceLE, Int.reduceEq, Int.reduceAbs, Int.reduceToNat, reduceCtorEq, wc_eq R, rowB, wc_eq NA, hn, show (4 < (ps.length : Int)) by omega, hl]
        | _ => simp only [↓kW, kP, String.reduceEq, Nat.reduceAdd, Nat.reduceSub, Nat.reduceMul, Nat.reducePow, Nat.reduceLT, Nat.reduceLeDiff, Nat.reduceEqDiff, Int.reduceAdd, Int.reduceSub, Int.reduceMul, Int.reduceNeg, Int.reducePow, Int.reduceLT, Int.reduceLE, Int.reduceEq, Int.reduceAbs, Int.reduceToNat, reduceCtorEq, wc_eq R, rowB, wc_eq NA, hn, bodyB]
      | _ => simp only [↓kW, kP, String.reduceEq, Nat.reduceAdd, Nat.reduceSub, Nat.reduceMul, Nat.reducePow, Nat.reduceLT, Nat.reduceLeDiff, Nat.reduceEqDiff, Int.reduceAdd, Int.reduceSub, Int.reduceMul, Int.reduceNeg, Int.reducePow, Int.reduceLT, Int.reduceLE, Int.reduceEq, Int.reduceAbs, Int.reduceToNat, reduceCtorEq, wc_eq R, rowB, wc_eq NA, hn, bodyB]
    | [] => simp only [↓kW, kP, String.reduceEq, Nat.reduceAdd, Nat.reduceSub, Nat.reduceMul, Nat.reducePow, Nat.reduceLT, Nat.reduceLeDiff, Nat.reduceEqDiff, Int.reduceAdd, Int.reduceSub, Int.reduceMul, Int.reduceNeg, Int.reducePow, Int.reduceLT, Int.reduceLE, Int.reduceEq, Int.reduceAbs, Int.reduceToNat, reduceCtorEq, wc_eq R, rowB, bodyB]
    | [_] => simp only [↓kW, kP, String.reduceEq, Nat.reduceAdd, Nat.reduceSub, Nat.reduceMul, Nat.reducePow, Nat.reduceLT, Nat.reduceLeDiff, Nat.reduceEqDiff, Int.reduceAdd, Int.reduceSub, Int.reduceMul, Int.reduceNeg, Int.reducePow, Int.reduceLT, Int.reduceLE, Int.reduceEq, Int.reduceAbs, Int.reduceToNat, reduceCtorEq, wc_eq R, rowB, bodyB]
    | [_, _] => simp only [↓kW, kP, String.reduceEq, Nat.reduceAdd, Nat.reduceSub, Nat.reduceMul, Nat.reducePow, Nat.reduceLT, Nat.reduceLeDiff, Nat.reduceEqDiff, Int.reduceAdd, Int.reduceSub, Int.reduceMul, Int.reduceNeg, Int.reducePow, Int.reduceLT, Int.reduceLE, Int.reduceEq, Int.reduceAbs, Int.reduceToNat, reduceCtorEq, wc_eq R, rowB, bodyB]
    | [_, _, _] => simp only [↓kW, kP, String.reduceEq, Nat.reduceAdd, Nat.reduceSub, Nat.reduceMul, Nat.reducePow, Nat.reduceLT, Nat.reduceLeDiff, Nat.reduceEqDiff, Int.reduceAdd, Int.reduceSub, Int.reduceMul, Int.reduceNeg, Int.reducePow, Int.reduceLT, Int.reduceLE, Int.reduceEq, Int.reduceAbs, Int.reduceToNat, reduceCtorEq, wc_eq R, rowB, bodyB]
    | [_, _, _, _] => simp only [↓kW, kP, String.reduceEq, Nat.reduceAdd, Nat.reduceSub, Nat.reduceMul, Nat.reducePow, Nat.reduceLT, Nat.reduceLeDiff, Nat.reduceEqDiff, Int.reduceAdd, Int.reduceSub, Int.reduceMul, Int.reduceNeg, Int.reducePow, Int.reduceLT, Int.reduceLE, Int.reduceEq, Int.reduceAbs, Int.reduceToNat, reduceCtorEq, wc_eq R, rowB, bodyB]
    | _ :: _ :: _ :: _ :: _ :: _ :: tl => simp only [↓kW, kP, String.reduceEq, Nat.reduceAdd, Nat.reduceSub, Nat.reduceMul, Nat.reducePow, Nat.reduceLT, Nat.reduceLeDiff, Nat.reduceEqDiff, Int.reduceAdd, Int.reduceSub, Int.reduceMul, Int.reduceNeg, Int.reducePow, Int.reduceLT, Int.reduceLE, Int.reduceEq, Int.reduceAbs, Int.reduceToNat, reduceCtorEq, wc_eq R, rowB, bodyB, show ¬ (tl.length + 1 + 1 + 1 + 1 + 1 + 1 = 5) by omega]
  | _ => simp only [↓kW, kP, String.reduceEq, Nat.reduceAdd, Nat.reduceSub, Nat.reduceMul, Nat.reducePow, Nat.reduceLT, Nat.reduceLeDiff, Nat.reduceEqDiff, Int.reduceAdd, Int.reduceSub, Int.reduceMul, Int.reduceNeg, Int.reducePow, Int.reduceLT, Int.reduceLE, Int.reduceEq, Int.reduceAbs, Int.reduceToNat, reduceCtorEq, wc_eq R, rowB, bodyB]
theorem program_ok {N : Nat} (h : 84 ≤ N) (d : PyData) : (fs N).is_program [B.v d] = some (.bool (programB d), []) := by
  obtain ⟨n, rfl⟩ : ∃ n, N = n + 1 := ⟨N - 1, by omega⟩
  refine of_wc ?_
  show wc (bodyFn [] 1 (b_is_program (fs n))) [B.v d] _
  unfold b_is_program
  cases d with
  | tuple xs =>
    cases xs with
    | nil => simp only [↓kW, kP, String.reduceEq, Nat.reduceAdd, Nat.reduceSub, Nat.reduceMul, Nat.reducePow, Nat.reduceLT, Nat.reduceLeDiff, Nat.reduceEqDiff, Int.reduceAdd, Int.reduceSub, Int.reduceMul, Int.reduceNeg, Int.reducePow, Int.reduceLT, Int.reduceLE, Int.reduceEq, Int.reduceAbs, Int.reduceToNat, reduceCtorEq, programB]
    | cons x xs =>
      simp only [↓kW, kP, String.reduceEq, Nat.reduceAdd, Nat.reduceSub, Nat.reduceMul, Nat.reducePow, Nat.reduceLT, Nat.reduceLeDiff, Nat.reduceEqDiff, Int.reduceAdd, Int.reduceSub, Int.reduceMul, Int.reduceNeg, Int.reducePow, Int.reduceLT, Int.reduceLE, Int.reduceEq, Int.reduceAbs, Int.reduceToNat, reduceCtorEq, show (0 < (xs.length : Int) + 1) by omega]
      refine we_lcP (fun x => .bool (bodyB x)) ?_
      simp only [↓kW, kP, String.reduceEq, Nat.reduceAdd, Nat.reduceSub, Nat.reduceMul, Nat.reducePow, Nat.reduceLT, Nat.reduceLeDiff, Nat.reduceEqDiff, Int.reduceAdd, Int.reduceSub, Int.reduceMul, Int.reduceNeg, Int.reducePow, Int.reduceLT, Int.reduceLE, Int.reduceEq, Int.reduceAbs, Int.reduceToNat, reduceCtorEq]
      refine ⟨fun d _ => ?_, ?_⟩
      · simp only [↓kW, kP, String.reduceEq, Nat.reduceAdd, Nat.reduceSub, Nat.reduceMul, Nat.reducePow, Nat.reduceLT, Nat.reduceLeDiff, Nat.reduceEqDiff, Int.reduceAdd, Int.reduceSub, Int.reduceMul, Int.reduceNeg, Int.reducePow, Int.reduceLT, Int.reduceLE, Int.reduceEq, Int.reduceAbs, Int.reduceToNat, reduceCtorEq, wc_eq (body_ok (N := n) (by omega) d)]
      · simp only [↓kW, kP, String.reduceEq, Nat.reduceAdd, Nat.reduceSub, Nat.reduceMul, Nat.reducePow, Nat.reduceLT, Nat.reduceLeDiff, Nat.reduceEqDiff, Int.reduceAdd, Int.reduceSub, Int.reduceMul, Int.reduceNeg, Int.reducePow, Int.reduceLT, Int.reduceLE, Int.reduceEq, Int.reduceAbs, Int.reduceToNat, reduceCtorEq, programB, allB_map, List.all_map]
        rfl
  | _ => simp only [↓kW, kP, String.reduceEq, Nat.reduceAdd, Nat.reduceSub, Nat.reduceMul, Nat.reducePow, Nat.reduceLT, Nat.reduceLeDiff, Nat.reduceEqDiff, Int.reduceAdd, Int.reduceSub, Int.reduceMul, Int.reduceNeg, Int.reducePow, Int.reduceLT, Int.reduceLE, Int.reduceEq, Int.reduceAbs, Int.reduceToNat, reduceCtorEq, programB]

theorem kindB_sm : ∀ {n : Nat} {d : PyData}, kindB n d = true → Sm n d
  | 0, d, h => by cases d <;> simp [kindB] at h
  | n + 1, .str z, h => trivial
  | n + 1, .tuple [], h => by simp [kindB] at h
  | n + 1, .tuple (x :: xs), h => by
    cases x with
    | str w =>
      simp only [kindB, Bool.and_eq_true, List.all_eq_true, Bool.or_eq_true, decide_eq_true_eq] at h
      refine ⟨by rw [List.length_cons]; omega, fun y hy => ?_⟩
      rcases List.mem_cons.mp hy with rfl | hy
      · exact sm_str _ _
      · exact kindB_sm (h.2 y hy)
    | _ => simp [kindB] at h
  | n + 1, .none, h => by simp [kindB] at h
  | n + 1, .bool _, h => by simp [kindB] at h
  | n + 1, .int _, h => by simp [kindB] at h
  | n + 1, .list _, h => by simp [kindB] at h
  | n + 1, .dict _, h => by simp [kindB] at h
theorem nameB_sm {n : Nat} {d : PyData} (h : nameB d = true) : Sm n d := by cases d <;> first | exact sm_str _ _ | simp [nameB] at h
theorem signB_sm {n : Nat} {d : PyData} (h : signB d = true) : Sm n d := by cases d <;> first | exact sm_str _ _ | simp [signB] at h
theorem numB_sm {n : Nat} {d : PyData} (h : numB d = true) : Sm n d := by cases d <;> first | exact sm_int _ _ | simp [numB] at h
theorem sm_none (n : Nat) : Sm n .none := by cases n <;> trivial
theorem kindO_sm {n : Nat} {d : PyData} (hn : 6 ≤ n) (h : kindO d = true) : Sm n d := by
  cases d <;> first | exact sm_none _ | exact (kindB_sm h).mono hn
theorem sm_cons {n : Nat} {x : PyData} {xs : List PyData} (hl : xs.length < 1000000) (hx : Sm n x) (h : ∀ y ∈ xs, Sm n y) : Sm (n + 1) (.tuple (x :: xs)) := ⟨by rw [List.length_cons]; omega, fun y hy => by
  rcases List.mem_cons.mp hy with rfl | hy
  · exact hx
  · exact h y hy⟩
theorem argsB_sm {n : Nat} {e : PyData → Bool} (he : ∀ d, e d = true → Sm n d) {d : PyData} (h : argsB e d = true) : Sm (n + 2) d := by
  cases d with
  | tuple xs =>
    simp only [argsB, Bool.and_eq_true, decide_eq_true_eq, List.all_eq_true] at h
    refine ⟨by omega, fun y hy => ?_⟩
    have h2 := h.2 y hy
    unfold armB at h2
    split at h2
    · refine sm_cons (by simp) (sm_str _ _) fun z hz => ?_
      rw [List.mem_singleton.mp hz]
      split at h2
      · exact he _ h2
      · exact nameB_sm (Bool.and_eq_true_iff.mp h2).2
    · cases h2
  | _ => simp [argsB] at h
theorem exprB_sm : ∀ {k : Nat} {d : PyData}, exprB k d = true → Sm (3 * k + 6) d
  | 0, d, h => by cases d <;> simp [exprB] at h
  | k + 1, .tuple [], h => by simp [exprB] at h
  | k + 1, .tuple (x :: xs), h => by
    cases x with
    | str w =>
      have h : exprF (exprB k) w xs = true := h
      have ih : ∀ d, exprB k d = true → Sm (3 * k + 6) d := fun d h => exprB_sm h
      have ih' : ∀ d, exprB k d = true → Sm (3 * k + 8) d := fun d h => (ih d h).mono (by omega)
      rw [show 3 * (k + 1) + 6 = (3 * k + 8) + 1 by omega]
      have key : xs.length ≤ 3 → (∀ y ∈ xs, Sm (3 * k + 8) y) → Sm (3 * k + 8 + 1) (.tuple (.str w :: xs)) := fun hl hy => sm_cons (by omega) (sm_str _ _) hy
      unfold exprF at h
      split at h
      · split at h
        · exact key (by simp) fun y hy => by rw [List.mem_singleton.mp hy]; exact numB_sm h
        · cases h
      split at h
      · split at h
        · exact key (by simp) fun y hy => by rw [List.mem_singleton.mp hy]; exact nameB_sm h
        · cases h
      split at h
      · split at h
        · exact key (by simp) fun y hy => by rw [List.mem_singleton.mp hy]; exact ih' _ h
        · cases h
      split at h
      · split at h
        · simp only [Bool.and_eq_true] at h
          refine key (by simp) fun y hy => ?_
          simp only [List.mem_cons, List.not_mem_nil, or_false] at hy
          rcases hy with rfl | rfl | rfl
          · exact signB_sm h.1
          · exact ih' _ h.2.1
          · exact ih' _ h.2.2
        · cases h
      split at h
      · split at h
        · simp only [Bool.and_eq_true] at h
          refine key (by simp) fun y hy => ?_
          simp only [List.mem_cons, List.not_mem_nil, or_false] at hy
          rcases hy with rfl | rfl
          · exact ih' _ h.1
          · exact ih' _ h.2
        · cases h
      split at h
      · split at h
        · simp only [Bool.and_eq_true] at h
          refine key (by simp) fun y hy => ?_
          simp only [List.mem_cons, List.not_mem_nil, or_false] at hy
          rcases hy with rfl | rfl | rfl
          · exact nameB_sm h.1
          · exact kindO_sm (by omega) h.2.1
          · exact argsB_sm ih h.2.2
        · cases h
      · cases h
    | _ => simp [exprB] at h
  | k + 1, .none, h => by simp [exprB] at h
  | k + 1, .bool _, h => by simp [exprB] at h
  | k + 1, .int _, h => by simp [exprB] at h
  | k + 1, .str _, h => by simp [exprB] at h
  | k + 1, .list _, h => by simp [exprB] at h
  | k + 1, .dict _, h => by simp [exprB] at h
theorem hand_r {N : Nat} {ns : List Int} {i : Nat} {Q : List PyData → Env' → Prop} (hN : 1 ≤ N) (hi : i < 1000) (q : ∀ m, Hd (2 ^ 40) (.lst m) → Q m []) : wc (fs N).law_hand [B.v (.list (ns.map .int)), B.v (.int i)] Q := by
  obtain ⟨n, rfl⟩ : ∃ n, N = n + 1 := ⟨N - 1, by omega⟩
  obtain ⟨m, e, hm⟩ := hand_ok (n := n) (ns := ns) (i := (i : Int)) (by omega) (by omega)
  rw [wc_eq e]
  exact q m hm

theorem cells2 (len : Nat) : ∃ r : Nat, r ≤ 2 ∧ itR 0 (if 1 < if (len : Int) < 2 then (len : Int) else 2 then if (len : Int) < 2 then (len : Int) else 2 else 1) = some (rngD 0 r) := by
  by_cases c : (len : Int) < 2
  · refine ⟨1, by decide, ?_⟩
    rw [if_pos c, if_neg (by omega)]
    rfl
  · refine ⟨2, by decide, ?_⟩
    rw [if_neg c, if_pos (by decide)]
    rfl
theorem nm_main : nameB (.str "main") = true := by decide +kernel
theorem k6num : kindB 6 (.str "num") = true := by decide +kernel
theorem pr_one (b : PyData) : programB (.tuple [.tuple [.str "main", .bool false, .tuple [], .str "num", b]]) = blockB 5 b := by
  show (bodyB _ && true) = _
  rw [Bool.and_true]
  show (nameB (.str "main") && (decide (0 ≤ 4) && (true && (kindB 6 (.str "num") && blockB 5 b)))) = _
  rw [nm_main, k6num]
  rfl
theorem exprB_tup {k : Nat} {x : PyData} (h : exprB k x = true) : ∃ w xs, x = .tuple (.str w :: xs) := by
  cases k with
  | zero => cases x <;> simp [exprB] at h
  | succ k =>
    cases x with
    | tuple ys => cases ys with
      | nil => simp [exprB] at h
      | cons y ys => cases y <;> first | exact ⟨_, _, rfl⟩ | simp [exprB] at h
    | _ => simp [exprB] at h
theorem costE_mono {a b : Nat} (h : a ≤ b) : costE a ≤ costE b := by
  induction h with
  | refl => exact Nat.le_refl _
  | step h ih => show _ ≤ 100 + 4 * costE _; omega

theorem cut13 {α : Type} (a x y z : α) : cutP [a, x, y, z] (some 1) (some 3) = [x, y] := rfl
theorem tb_let : tblLook t_STATEMENTS "let" = some (.tuple [.str "name", .str "expression"]) := by rfl
theorem st_let (bl : PyData → Bool) (x0 x1 : PyData) : stB bl (.tuple [.str "let", x0, x1]) = (nameB x0 && exprB 5 x1) := by
  simp (decide := true) [stB, tb_let, partS, partG]
theorem sn_let (bl : PyData → Bool) (xs : List PyData) (h : xs.length ≠ 2) : stB bl (.tuple (.str "let" :: xs)) = false := by
  simp [stB, tb_let, h]
theorem tb_split : tblLook t_STATEMENTS "split" = some (.tuple [.str "name", .str "name", .str "expression"]) := by rfl
theorem st_split (bl : PyData → Bool) (x0 x1 x2 : PyData) : stB bl (.tuple [.str "split", x0, x1, x2]) = (nameB x0 && (nameB x1 && exprB 5 x2)) := by
  simp (decide := true) [stB, tb_split, partS, partG]
theorem sn_split (bl : PyData → Bool) (xs : List PyData) (h : xs.length ≠ 3) : stB bl (.tuple (.str "split" :: xs)) = false := by
  simp [stB, tb_split, h]
theorem tb_set : tblLook t_STATEMENTS "set" = some (.tuple [.str "name", .str "expression"]) := by rfl
theorem st_set (bl : PyData → Bool) (x0 x1 : PyData) : stB bl (.tuple [.str "set", x0, x1]) = (nameB x0 && exprB 5 x1) := by
  simp (decide := true) [stB, tb_set, partS, partG]
theorem sn_set (bl : PyData → Bool) (xs : List PyData) (h : xs.length ≠ 2) : stB bl (.tuple (.str "set" :: xs)) = false := by
  simp [stB, tb_set, h]
theorem tb_put : tblLook t_STATEMENTS "put" = some (.tuple [.str "name", .str "expression"]) := by rfl
theorem st_put (bl : PyData → Bool) (x0 x1 : PyData) : stB bl (.tuple [.str "put", x0, x1]) = (nameB x0 && exprB 5 x1) := by
  simp (decide := true) [stB, tb_put, partS, partG]
theorem sn_put (bl : PyData → Bool) (xs : List PyData) (h : xs.length ≠ 2) : stB bl (.tuple (.str "put" :: xs)) = false := by
  simp [stB, tb_put, h]
theorem tb_say : tblLook t_STATEMENTS "say" = some (.tuple [.str "expression"]) := by rfl
theorem st_say (bl : PyData → Bool) (x0 : PyData) : stB bl (.tuple [.str "say", x0]) = exprB 5 x0 := by
  simp (decide := true) [stB, tb_say, partS, partG]
theorem sn_say (bl : PyData → Bool) (xs : List PyData) (h : xs.length ≠ 1) : stB bl (.tuple (.str "say" :: xs)) = false := by
  simp [stB, tb_say, h]
theorem tb_do : tblLook t_STATEMENTS "do" = some (.tuple [.str "call"]) := by rfl
theorem st_do (bl : PyData → Bool) (x0 : PyData) : stB bl (.tuple [.str "do", x0]) = (exprB 5 x0 && isCallB x0) := by
  simp (decide := true) [stB, tb_do, partS, partG]
theorem sn_do (bl : PyData → Bool) (xs : List PyData) (h : xs.length ≠ 1) : stB bl (.tuple (.str "do" :: xs)) = false := by
  simp [stB, tb_do, h]
theorem tb_drop : tblLook t_STATEMENTS "drop" = some (.tuple [.str "name"]) := by rfl
theorem st_drop (bl : PyData → Bool) (x0 : PyData) : stB bl (.tuple [.str "drop", x0]) = nameB x0 := by
  simp (decide := true) [stB, tb_drop, partS, partG]
theorem sn_drop (bl : PyData → Bool) (xs : List PyData) (h : xs.length ≠ 1) : stB bl (.tuple (.str "drop" :: xs)) = false := by
  simp [stB, tb_drop, h]
theorem tb_give : tblLook t_STATEMENTS "give" = some (.tuple [.str "expression"]) := by rfl
theorem st_give (bl : PyData → Bool) (x0 : PyData) : stB bl (.tuple [.str "give", x0]) = exprB 5 x0 := by
  simp (decide := true) [stB, tb_give, partS, partG]
theorem sn_give (bl : PyData → Bool) (xs : List PyData) (h : xs.length ≠ 1) : stB bl (.tuple (.str "give" :: xs)) = false := by
  simp [stB, tb_give, h]
theorem tb_fail : tblLook t_STATEMENTS "fail" = some (.tuple [.str "num"]) := by rfl
theorem st_fail (bl : PyData → Bool) (x0 : PyData) : stB bl (.tuple [.str "fail", x0]) = numB x0 := by
  simp (decide := true) [stB, tb_fail, partS, partG]
theorem sn_fail (bl : PyData → Bool) (xs : List PyData) (h : xs.length ≠ 1) : stB bl (.tuple (.str "fail" :: xs)) = false := by
  simp [stB, tb_fail, h]
theorem tb_poke : tblLook t_STATEMENTS "poke" = some (.tuple [.str "name", .str "expression"]) := by rfl
theorem st_poke (bl : PyData → Bool) (x0 x1 : PyData) : stB bl (.tuple [.str "poke", x0, x1]) = (nameB x0 && exprB 5 x1) := by
  simp (decide := true) [stB, tb_poke, partS, partG]
theorem sn_poke (bl : PyData → Bool) (xs : List PyData) (h : xs.length ≠ 2) : stB bl (.tuple (.str "poke" :: xs)) = false := by
  simp [stB, tb_poke, h]
theorem tb_free : tblLook t_STATEMENTS "free" = some (.tuple [.str "name"]) := by rfl
theorem st_free (bl : PyData → Bool) (x0 : PyData) : stB bl (.tuple [.str "free", x0]) = nameB x0 := by
  simp (decide := true) [stB, tb_free, partS, partG]
theorem sn_free (bl : PyData → Bool) (xs : List PyData) (h : xs.length ≠ 1) : stB bl (.tuple (.str "free" :: xs)) = false := by
  simp [stB, tb_free, h]
theorem tb_if : tblLook t_STATEMENTS "if" = some (.tuple [.str "expression", .str "block", .str "block"]) := by rfl
theorem st_if (bl : PyData → Bool) (x0 x1 x2 : PyData) : stB bl (.tuple [.str "if", x0, x1, x2]) = (exprB 5 x0 && (bl x1 && bl x2)) := by
  simp (decide := true) [stB, tb_if, partS, partG]
theorem sn_if (bl : PyData → Bool) (xs : List PyData) (h : xs.length ≠ 3) : stB bl (.tuple (.str "if" :: xs)) = false := by
  simp [stB, tb_if, h]
theorem tb_while : tblLook t_STATEMENTS "while" = some (.tuple [.str "expression", .str "block"]) := by rfl
theorem st_while (bl : PyData → Bool) (x0 x1 : PyData) : stB bl (.tuple [.str "while", x0, x1]) = (exprB 5 x0 && bl x1) := by
  simp (decide := true) [stB, tb_while, partS, partG]
theorem sn_while (bl : PyData → Bool) (xs : List PyData) (h : xs.length ≠ 2) : stB bl (.tuple (.str "while" :: xs)) = false := by
  simp [stB, tb_while, h]
theorem tb_look : tblLook t_STATEMENTS "look" = some (.tuple [.str "name", .str "name", .str "block"]) := by rfl
theorem st_look (bl : PyData → Bool) (x0 x1 x2 : PyData) : stB bl (.tuple [.str "look", x0, x1, x2]) = (nameB x0 && (nameB x1 && bl x2)) := by
  simp (decide := true) [stB, tb_look, partS, partG]
theorem sn_look (bl : PyData → Bool) (xs : List PyData) (h : xs.length ≠ 3) : stB bl (.tuple (.str "look" :: xs)) = false := by
  simp [stB, tb_look, h]
theorem tb_alter : tblLook t_STATEMENTS "alter" = some (.tuple [.str "name", .str "name", .str "block"]) := by rfl
theorem st_alter (bl : PyData → Bool) (x0 x1 x2 : PyData) : stB bl (.tuple [.str "alter", x0, x1, x2]) = (nameB x0 && (nameB x1 && bl x2)) := by
  simp (decide := true) [stB, tb_alter, partS, partG]
theorem sn_alter (bl : PyData → Bool) (xs : List PyData) (h : xs.length ≠ 3) : stB bl (.tuple (.str "alter" :: xs)) = false := by
  simp [stB, tb_alter, h]
theorem tb_fence : tblLook t_STATEMENTS "fence" = some (.tuple [.str "name", .str "block"]) := by rfl
theorem st_fence (bl : PyData → Bool) (x0 x1 : PyData) : stB bl (.tuple [.str "fence", x0, x1]) = (nameB x0 && bl x1) := by
  simp (decide := true) [stB, tb_fence, partS, partG]
theorem sn_fence (bl : PyData → Bool) (xs : List PyData) (h : xs.length ≠ 2) : stB bl (.tuple (.str "fence" :: xs)) = false := by
  simp [stB, tb_fence, h]
theorem st_none (bl : PyData → Bool) (w : Str) (xs : List PyData) (h : tblLook t_STATEMENTS w = none) : stB bl (.tuple (.str w :: xs)) = false := by
  simp [stB, h]
set_option maxHeartbeats 8000000 in
theorem lst_ok {N : Nat} {k : Int} {bl : PyData → Bool} (hN : 19 ≤ N) (hB : ∀ x, (fs N).law_is_block [B.v x, B.v (.int k)] = some (.bool (bl x), [])) (d : PyData) : (fs (N + 1)).law_is_statement [B.v d, B.v (.int k)] = some (.bool (stB bl d), []) := by
  refine of_wc ?_
  show wc (bodyFn [] 4 (b_law_is_statement (fs N))) _ _
  unfold b_law_is_statement
  have NM := fun x => lname (N := N) (by omega) x
  have NU := fun x => lnum (N := N) (by omega) x
  have LE : ∀ x, (fs N).law_is_expression [B.v x, B.v (.int 5)] = some (.bool (exprB 5 x), []) := fun x => lexpr 5 N (by omega) x
  cases d with
  | tuple ys =>
    cases ys with
    | nil => simp only [↓kW, kP, String.reduceEq, Nat.reduceAdd, Nat.reduceSub, Nat.reduceMul, Nat.reducePow, Nat.reduceLT, Nat.reduceLeDiff, Nat.reduceEqDiff, Int.reduceAdd, Int.reduceSub, Int.reduceMul, Int.reduceNeg, Int.reducePow, Int.reduceLT, Int.reduceLE, Int.reduceEq, Int.reduceAbs, Int.reduceToNat, reduceCtorEq, stB]
    | cons y xs =>
      cases y with
      | str w =>
        by_cases h0 : w = ("let" : Str)
        · subst h0
          match xs with
          | [] => rw [sn_let bl _ (by simp)]; simp only [↓kW, kP, String.reduceEq, Nat.reduceAdd, Nat.reduceSub, Nat.reduceMul, Nat.reducePow, Nat.reduceLT, Nat.reduceLeDiff, Nat.reduceEqDiff, Int.reduceAdd, Int.reduceSub, Int.reduceMul, Int.reduceNeg, Int.reducePow, Int.reduceLT, Int.reduceLE, Int.reduceEq, Int.reduceAbs, Int.reduceToNat, reduceCtorEq]
          | [x0] => rw [sn_let bl _ (by simp)]; simp only [↓kW, kP, String.reduceEq, Nat.reduceAdd, Nat.reduceSub, Nat.reduceMul, Nat.reducePow, Nat.reduceLT, Nat.reduceLeDiff, Nat.reduceEqDiff, Int.reduceAdd, Int.reduceSub, Int.reduceMul, Int.reduceNeg, Int.reducePow, Int.reduceLT, Int.reduceLE, Int.reduceEq, Int.reduceAbs, Int.reduceToNat, reduceCtorEq]
          | [x0, x1] =>
            rw [st_let]
            cases e0 : nameB x0 <;> cases e1 : exprB 5 x1 <;> simp only [↓kW, kP, String.reduceEq, Nat.reduceAdd, Nat.reduceSub, Nat.reduceMul, Nat.reducePow, Nat.reduceLT, Nat.reduceLeDiff, Nat.reduceEqDiff, Int.reduceAdd, Int.reduceSub, Int.reduceMul, Int.reduceNeg, Int.reducePow, Int.reduceLT, Int.reduceLE, Int.reduceEq, Int.reduceAbs, Int.reduceToNat, reduceCtorEq, e0, e1, wc_eq (NM x0), wc_eq (LE x1)]
          | x0 :: x1 :: x2 :: tl => rw [sn_let bl _ (by simp only [List.length_cons]; omega)]; simp only [↓kW, kP, String.reduceEq, Nat.reduceAdd, Nat.reduceSub, Nat.reduceMul, Nat.reducePow, Nat.reduceLT, Nat.reduceLeDiff, Nat.reduceEqDiff, Int.reduceAdd, Int.reduceSub, Int.reduceMul, Int.reduceNeg, Int.reducePow, Int.reduceLT, Int.reduceLE, Int.reduceEq, Int.reduceAbs, Int.reduceToNat, reduceCtorEq, show ¬ ((tl.length : Int) + 1 + 1 + 1 + 1 = 3) by omega]
        by_cases h1 : w = ("split" : Str)
        · subst h1
          match xs with
          | [] => rw [sn_split bl _ (by simp)]; simp only [↓kW, kP, String.reduceEq, Nat.reduceAdd, Nat.reduceSub, Nat.reduceMul, Nat.reducePow, Nat.reduceLT, Nat.reduceLeDiff, Nat.reduceEqDiff, Int.reduceAdd, Int.reduceSub, Int.reduceMul, Int.reduceNeg, Int.reducePow, Int.reduceLT, Int.reduceLE, Int.reduceEq, Int.reduceAbs, Int.reduceToNat, reduceCtorEq]
          | [x0] => rw [sn_split bl _ (by simp)]; simp only [↓kW, kP, String.reduceEq, Nat.reduceAdd, Nat.reduceSub, Nat.reduceMul, Nat.reducePow, Nat.reduceLT, Nat.reduceLeDiff, Nat.reduceEqDiff, Int.reduceAdd, Int.reduceSub, Int.reduceMul, Int.reduceNeg, Int.reducePow, Int.reduceLT, Int.reduceLE, Int.reduceEq, Int.reduceAbs, Int.reduceToNat, reduceCtorEq]
          | [x0, x1] => rw [sn_split bl _ (by simp)]; simp only [↓kW, kP, String.reduceEq, Nat.reduceAdd, Nat.reduceSub, Nat.reduceMul, Nat.reducePow, Nat.reduceLT, Nat.reduceLeDiff, Nat.reduceEqDiff, Int.reduceAdd, Int.reduceSub, Int.reduceMul, Int.reduceNeg, Int.reducePow, Int.reduceLT, Int.reduceLE, Int.reduceEq, Int.reduceAbs, Int.reduceToNat, reduceCtorEq]
          | [x0, x1, x2] =>
            rw [st_split]
            simp only [↓kW, kP, String.reduceEq, Nat.reduceAdd, Nat.reduceSub, Nat.reduceMul, Nat.reducePow, Nat.reduceLT, Nat.reduceLeDiff, Nat.reduceEqDiff, Int.reduceAdd, Int.reduceSub, Int.reduceMul, Int.reduceNeg, Int.reducePow, Int.reduceLT, Int.reduceLE, Int.reduceEq, Int.reduceAbs, Int.reduceToNat, reduceCtorEq]
            refine we_lcP (fun x => .bool (nameB x)) ?_
            simp only [↓kW, kP, String.reduceEq, Nat.reduceAdd, Nat.reduceSub, Nat.reduceMul, Nat.reducePow, Nat.reduceLT, Nat.reduceLeDiff, Nat.reduceEqDiff, Int.reduceAdd, Int.reduceSub, Int.reduceMul, Int.reduceNeg, Int.reducePow, Int.reduceLT, Int.reduceLE, Int.reduceEq, Int.reduceAbs, Int.reduceToNat, reduceCtorEq, cut13]
            refine ⟨fun d _ => ?_, ?_⟩
            · simp only [↓kW, kP, String.reduceEq, Nat.reduceAdd, Nat.reduceSub, Nat.reduceMul, Nat.reducePow, Nat.reduceLT, Nat.reduceLeDiff, Nat.reduceEqDiff, Int.reduceAdd, Int.reduceSub, Int.reduceMul, Int.reduceNeg, Int.reducePow, Int.reduceLT, Int.reduceLE, Int.reduceEq, Int.reduceAbs, Int.reduceToNat, reduceCtorEq, wc_eq (NM d)]
            · cases e0 : nameB x0 <;> cases e1 : nameB x1 <;> cases e2 : exprB 5 x2 <;> simp only [↓kW, kP, String.reduceEq, Nat.reduceAdd, Nat.reduceSub, Nat.reduceMul, Nat.reducePow, Nat.reduceLT, Nat.reduceLeDiff, Nat.reduceEqDiff, Int.reduceAdd, Int.reduceSub, Int.reduceMul, Int.reduceNeg, Int.reducePow, Int.reduceLT, Int.reduceLE, Int.reduceEq, Int.reduceAbs, Int.reduceToNat, reduceCtorEq, e0, e1, e2, wc_eq (NM x0), wc_eq (NM x1), wc_eq (LE x2)]
          | x0 :: x1 :: x2 :: x3 :: tl => rw [sn_split bl _ (by simp only [List.length_cons]; omega)]; simp only [↓kW, kP, String.reduceEq, Nat.reduceAdd, Nat.reduceSub, Nat.reduceMul, Nat.reducePow, Nat.reduceLT, Nat.reduceLeDiff, Nat.reduceEqDiff, Int.reduceAdd, Int.reduceSub, Int.reduceMul, Int.reduceNeg, Int.reducePow, Int.reduceLT, Int.reduceLE, Int.reduceEq, Int.reduceAbs, Int.reduceToNat, reduceCtorEq, show ¬ ((tl.length : Int) + 1 + 1 + 1 + 1 + 1 = 4) by omega]
        by_cases h2 : w = ("set" : Str)
        · subst h2
          match xs with
          | [] => rw [sn_set bl _ (by simp)]; simp only [↓kW, kP, String.reduceEq, Nat.reduceAdd, Nat.reduceSub, Nat.reduceMul, Nat.reducePow, Nat.reduceLT, Nat.reduceLeDiff, Nat.reduceEqDiff, Int.reduceAdd, Int.reduceSub, Int.reduceMul, Int.reduceNeg, Int.reducePow, Int.reduceLT, Int.reduceLE, Int.reduceEq, Int.reduceAbs, Int.reduceToNat, reduceCtorEq]
          | [x0] => rw [sn_set bl _ (by simp)]; simp only [↓kW, kP, String.reduceEq, Nat.reduceAdd, Nat.reduceSub, Nat.reduceMul, Nat.reducePow, Nat.reduceLT, Nat.reduceLeDiff, Nat.reduceEqDiff, Int.reduceAdd, Int.reduceSub, Int.reduceMul, Int.reduceNeg, Int.reducePow, Int.reduceLT, Int.reduceLE, Int.reduceEq, Int.reduceAbs, Int.reduceToNat, reduceCtorEq]
          | [x0, x1] =>
            rw [st_set]
            cases e0 : nameB x0 <;> cases e1 : exprB 5 x1 <;> simp only [↓kW, kP, String.reduceEq, Nat.reduceAdd, Nat.reduceSub, Nat.reduceMul, Nat.reducePow, Nat.reduceLT, Nat.reduceLeDiff, Nat.reduceEqDiff, Int.reduceAdd, Int.reduceSub, Int.reduceMul, Int.reduceNeg, Int.reducePow, Int.reduceLT, Int.reduceLE, Int.reduceEq, Int.reduceAbs, Int.reduceToNat, reduceCtorEq, e0, e1, wc_eq (NM x0), wc_eq (LE x1)]
          | x0 :: x1 :: x2 :: tl => rw [sn_set bl _ (by simp only [List.length_cons]; omega)]; simp only [↓kW, kP, String.reduceEq, Nat.reduceAdd, Nat.reduceSub, Nat.reduceMul, Nat.reducePow, Nat.reduceLT, Nat.reduceLeDiff, Nat.reduceEqDiff, Int.reduceAdd, Int.reduceSub, Int.reduceMul, Int.reduceNeg, Int.reducePow, Int.reduceLT, Int.reduceLE, Int.reduceEq, Int.reduceAbs, Int.reduceToNat, reduceCtorEq, show ¬ ((tl.length : Int) + 1 + 1 + 1 + 1 = 3) by omega]
        by_cases h3 : w = ("put" : Str)
        · subst h3
          match xs with
          | [] => rw [sn_put bl _ (by simp)]; simp only [↓kW, kP, String.reduceEq, Nat.reduceAdd, Nat.reduceSub, Nat.reduceMul, Nat.reducePow, Nat.reduceLT, Nat.reduceLeDiff, Nat.reduceEqDiff, Int.reduceAdd, Int.reduceSub, Int.reduceMul, Int.reduceNeg, Int.reducePow, Int.reduceLT, Int.reduceLE, Int.reduceEq, Int.reduceAbs, Int.reduceToNat, reduceCtorEq]
          | [x0] => rw [sn_put bl _ (by simp)]; simp only [↓kW, kP, String.reduceEq, Nat.reduceAdd, Nat.reduceSub, Nat.reduceMul, Nat.reducePow, Nat.reduceLT, Nat.reduceLeDiff, Nat.reduceEqDiff, Int.reduceAdd, Int.reduceSub, Int.reduceMul, Int.reduceNeg, Int.reducePow, Int.reduceLT, Int.reduceLE, Int.reduceEq, Int.reduceAbs, Int.reduceToNat, reduceCtorEq]
          | [x0, x1] =>
            rw [st_put]
            cases e0 : nameB x0 <;> cases e1 : exprB 5 x1 <;> simp only [↓kW, kP, String.reduceEq, Nat.reduceAdd, Nat.reduceSub, Nat.reduceMul, Nat.reducePow, Nat.reduceLT, Nat.reduceLeDiff, Nat.reduceEqDiff, Int.reduceAdd, Int.reduceSub, Int.reduceMul, Int.reduceNeg, Int.reducePow, Int.reduceLT, Int.reduceLE, Int.reduceEq, Int.reduceAbs, Int.reduceToNat, reduceCtorEq, e0, e1, wc_eq (NM x0), wc_eq (LE x1)]
          | x0 :: x1 :: x2 :: tl => rw [sn_put bl _ (by simp only [List.length_cons]; omega)]; simp only [↓kW, kP, String.reduceEq, Nat.reduceAdd, Nat.reduceSub, Nat.reduceMul, Nat.reducePow, Nat.reduceLT, Nat.reduceLeDiff, Nat.reduceEqDiff, Int.reduceAdd, Int.reduceSub, Int.reduceMul, Int.reduceNeg, Int.reducePow, Int.reduceLT, Int.reduceLE, Int.reduceEq, Int.reduceAbs, Int.reduceToNat, reduceCtorEq, show ¬ ((tl.length : Int) + 1 + 1 + 1 + 1 = 3) by omega]
        by_cases h4 : w = ("say" : Str)
        · subst h4
          match xs with
          | [] => rw [sn_say bl _ (by simp)]; simp only [↓kW, kP, String.reduceEq, Nat.reduceAdd, Nat.reduceSub, Nat.reduceMul, Nat.reducePow, Nat.reduceLT, Nat.reduceLeDiff, Nat.reduceEqDiff, Int.reduceAdd, Int.reduceSub, Int.reduceMul, Int.reduceNeg, Int.reducePow, Int.reduceLT, Int.reduceLE, Int.reduceEq, Int.reduceAbs, Int.reduceToNat, reduceCtorEq]
          | [x0] =>
            rw [st_say]
            cases e0 : exprB 5 x0 <;> simp only [↓kW, kP, String.reduceEq, Nat.reduceAdd, Nat.reduceSub, Nat.reduceMul, Nat.reducePow, Nat.reduceLT, Nat.reduceLeDiff, Nat.reduceEqDiff, Int.reduceAdd, Int.reduceSub, Int.reduceMul, Int.reduceNeg, Int.reducePow, Int.reduceLT, Int.reduceLE, Int.reduceEq, Int.reduceAbs, Int.reduceToNat, reduceCtorEq, e0, wc_eq (LE x0)]
          | x0 :: x1 :: tl => rw [sn_say bl _ (by simp only [List.length_cons]; omega)]; simp only [↓kW, kP, String.reduceEq, Nat.reduceAdd, Nat.reduceSub, Nat.reduceMul, Nat.reducePow, Nat.reduceLT, Nat.reduceLeDiff, Nat.reduceEqDiff, Int.reduceAdd, Int.reduceSub, Int.reduceMul, Int.reduceNeg, Int.reducePow, Int.reduceLT, Int.reduceLE, Int.reduceEq, Int.reduceAbs, Int.reduceToNat, reduceCtorEq, show ¬ ((tl.length : Int) + 1 + 1 + 1 = 2) by omega]
        by_cases h5 : w = ("do" : Str)
        · subst h5
          match xs with
          | [] => rw [sn_do bl _ (by simp)]; simp only [↓kW, kP, String.reduceEq, Nat.reduceAdd, Nat.reduceSub, Nat.reduceMul, Nat.reducePow, Nat.reduceLT, Nat.reduceLeDiff, Nat.reduceEqDiff, Int.reduceAdd, Int.reduceSub, Int.reduceMul, Int.reduceNeg, Int.reducePow, Int.reduceLT, Int.reduceLE, Int.reduceEq, Int.reduceAbs, Int.reduceToNat, reduceCtorEq]
          | [x0] =>
            rw [st_do]
            cases e0 : exprB 5 x0 with
            | false => simp only [↓kW, kP, String.reduceEq, Nat.reduceAdd, Nat.reduceSub, Nat.reduceMul, Nat.reducePow, Nat.reduceLT, Nat.reduceLeDiff, Nat.reduceEqDiff, Int.reduceAdd, Int.reduceSub, Int.reduceMul, Int.reduceNeg, Int.reducePow, Int.reduceLT, Int.reduceLE, Int.reduceEq, Int.reduceAbs, Int.reduceToNat, reduceCtorEq, wc_eq (LE x0), e0]
            | true =>
              obtain ⟨w, xs, rfl⟩ := exprB_tup e0
              simp only [↓kW, kP, String.reduceEq, Nat.reduceAdd, Nat.reduceSub, Nat.reduceMul, Nat.reducePow, Nat.reduceLT, Nat.reduceLeDiff, Nat.reduceEqDiff, Int.reduceAdd, Int.reduceSub, Int.reduceMul, Int.reduceNeg, Int.reducePow, Int.reduceLT, Int.reduceLE, Int.reduceEq, Int.reduceAbs, Int.reduceToNat, reduceCtorEq, wc_eq (LE _), e0, isCallB]
          | x0 :: x1 :: tl => rw [sn_do bl _ (by simp only [List.length_cons]; omega)]; simp only [↓kW, kP, String.reduceEq, Nat.reduceAdd, Nat.reduceSub, Nat.reduceMul, Nat.reducePow, Nat.reduceLT, Nat.reduceLeDiff, Nat.reduceEqDiff, Int.reduceAdd, Int.reduceSub, Int.reduceMul, Int.reduceNeg, Int.reducePow, Int.reduceLT, Int.reduceLE, Int.reduceEq, Int.reduceAbs, Int.reduceToNat, reduceCtorEq, show ¬ ((tl.length : Int) + 1 + 1 + 1 = 2) by omega]
        by_cases h6 : w = ("drop" : Str)
        · subst h6
          match xs with
          | [] => rw [sn_drop bl _ (by simp)]; simp only [↓kW, kP, String.reduceEq, Nat.reduceAdd, Nat.reduceSub, Nat.reduceMul, Nat.reducePow, Nat.reduceLT, Nat.reduceLeDiff, Nat.reduceEqDiff, Int.reduceAdd, Int.reduceSub, Int.reduceMul, Int.reduceNeg, Int.reducePow, Int.reduceLT, Int.reduceLE, Int.reduceEq, Int.reduceAbs, Int.reduceToNat, reduceCtorEq]
          | [x0] =>
            rw [st_drop]
            cases e0 : nameB x0 <;> simp only [↓kW, kP, String.reduceEq, Nat.reduceAdd, Nat.reduceSub, Nat.reduceMul, Nat.reducePow, Nat.reduceLT, Nat.reduceLeDiff, Nat.reduceEqDiff, Int.reduceAdd, Int.reduceSub, Int.reduceMul, Int.reduceNeg, Int.reducePow, Int.reduceLT, Int.reduceLE, Int.reduceEq, Int.reduceAbs, Int.reduceToNat, reduceCtorEq, e0, wc_eq (NM x0)]
          | x0 :: x1 :: tl => rw [sn_drop bl _ (by simp only [List.length_cons]; omega)]; simp only [↓kW, kP, String.reduceEq, Nat.reduceAdd, Nat.reduceSub, Nat.reduceMul, Nat.reducePow, Nat.reduceLT, Nat.reduceLeDiff, Nat.reduceEqDiff, Int.reduceAdd, Int.reduceSub, Int.reduceMul, Int.reduceNeg, Int.reducePow, Int.reduceLT, Int.reduceLE, Int.reduceEq, Int.reduceAbs, Int.reduceToNat, reduceCtorEq, show ¬ ((tl.length : Int) + 1 + 1 + 1 = 2) by omega]
        by_cases h7 : w = ("give" : Str)
        · subst h7
          match xs with
          | [] => rw [sn_give bl _ (by simp)]; simp only [↓kW, kP, String.reduceEq, Nat.reduceAdd, Nat.reduceSub, Nat.reduceMul, Nat.reducePow, Nat.reduceLT, Nat.reduceLeDiff, Nat.reduceEqDiff, Int.reduceAdd, Int.reduceSub, Int.reduceMul, Int.reduceNeg, Int.reducePow, Int.reduceLT, Int.reduceLE, Int.reduceEq, Int.reduceAbs, Int.reduceToNat, reduceCtorEq]
          | [x0] =>
            rw [st_give]
            cases e0 : exprB 5 x0 <;> simp only [↓kW, kP, String.reduceEq, Nat.reduceAdd, Nat.reduceSub, Nat.reduceMul, Nat.reducePow, Nat.reduceLT, Nat.reduceLeDiff, Nat.reduceEqDiff, Int.reduceAdd, Int.reduceSub, Int.reduceMul, Int.reduceNeg, Int.reducePow, Int.reduceLT, Int.reduceLE, Int.reduceEq, Int.reduceAbs, Int.reduceToNat, reduceCtorEq, e0, wc_eq (LE x0)]
          | x0 :: x1 :: tl => rw [sn_give bl _ (by simp only [List.length_cons]; omega)]; simp only [↓kW, kP, String.reduceEq, Nat.reduceAdd, Nat.reduceSub, Nat.reduceMul, Nat.reducePow, Nat.reduceLT, Nat.reduceLeDiff, Nat.reduceEqDiff, Int.reduceAdd, Int.reduceSub, Int.reduceMul, Int.reduceNeg, Int.reducePow, Int.reduceLT, Int.reduceLE, Int.reduceEq, Int.reduceAbs, Int.reduceToNat, reduceCtorEq, show ¬ ((tl.length : Int) + 1 + 1 + 1 = 2) by omega]
        by_cases h8 : w = ("fail" : Str)
        · subst h8
          match xs with
          | [] => rw [sn_fail bl _ (by simp)]; simp only [↓kW, kP, String.reduceEq, Nat.reduceAdd, Nat.reduceSub, Nat.reduceMul, Nat.reducePow, Nat.reduceLT, Nat.reduceLeDiff, Nat.reduceEqDiff, Int.reduceAdd, Int.reduceSub, Int.reduceMul, Int.reduceNeg, Int.reducePow, Int.reduceLT, Int.reduceLE, Int.reduceEq, Int.reduceAbs, Int.reduceToNat, reduceCtorEq]
          | [x0] =>
            rw [st_fail]
            cases e0 : numB x0 <;> simp only [↓kW, kP, String.reduceEq, Nat.reduceAdd, Nat.reduceSub, Nat.reduceMul, Nat.reducePow, Nat.reduceLT, Nat.reduceLeDiff, Nat.reduceEqDiff, Int.reduceAdd, Int.reduceSub, Int.reduceMul, Int.reduceNeg, Int.reducePow, Int.reduceLT, Int.reduceLE, Int.reduceEq, Int.reduceAbs, Int.reduceToNat, reduceCtorEq, e0, wc_eq (NU x0)]
          | x0 :: x1 :: tl => rw [sn_fail bl _ (by simp only [List.length_cons]; omega)]; simp only [↓kW, kP, String.reduceEq, Nat.reduceAdd, Nat.reduceSub, Nat.reduceMul, Nat.reducePow, Nat.reduceLT, Nat.reduceLeDiff, Nat.reduceEqDiff, Int.reduceAdd, Int.reduceSub, Int.reduceMul, Int.reduceNeg, Int.reducePow, Int.reduceLT, Int.reduceLE, Int.reduceEq, Int.reduceAbs, Int.reduceToNat, reduceCtorEq, show ¬ ((tl.length : Int) + 1 + 1 + 1 = 2) by omega]
        by_cases h9 : w = ("poke" : Str)
        · subst h9
          match xs with
          | [] => rw [sn_poke bl _ (by simp)]; simp only [↓kW, kP, String.reduceEq, Nat.reduceAdd, Nat.reduceSub, Nat.reduceMul, Nat.reducePow, Nat.reduceLT, Nat.reduceLeDiff, Nat.reduceEqDiff, Int.reduceAdd, Int.reduceSub, Int.reduceMul, Int.reduceNeg, Int.reducePow, Int.reduceLT, Int.reduceLE, Int.reduceEq, Int.reduceAbs, Int.reduceToNat, reduceCtorEq]
          | [x0] => rw [sn_poke bl _ (by simp)]; simp only [↓kW, kP, String.reduceEq, Nat.reduceAdd, Nat.reduceSub, Nat.reduceMul, Nat.reducePow, Nat.reduceLT, Nat.reduceLeDiff, Nat.reduceEqDiff, Int.reduceAdd, Int.reduceSub, Int.reduceMul, Int.reduceNeg, Int.reducePow, Int.reduceLT, Int.reduceLE, Int.reduceEq, Int.reduceAbs, Int.reduceToNat, reduceCtorEq]
          | [x0, x1] =>
            rw [st_poke]
            cases e0 : nameB x0 <;> cases e1 : exprB 5 x1 <;> simp only [↓kW, kP, String.reduceEq, Nat.reduceAdd, Nat.reduceSub, Nat.reduceMul, Nat.reducePow, Nat.reduceLT, Nat.reduceLeDiff, Nat.reduceEqDiff, Int.reduceAdd, Int.reduceSub, Int.reduceMul, Int.reduceNeg, Int.reducePow, Int.reduceLT, Int.reduceLE, Int.reduceEq, Int.reduceAbs, Int.reduceToNat, reduceCtorEq, e0, e1, wc_eq (NM x0), wc_eq (LE x1)]
          | x0 :: x1 :: x2 :: tl => rw [sn_poke bl _ (by simp only [List.length_cons]; omega)]; simp only [↓kW, kP, String.reduceEq, Nat.reduceAdd, Nat.reduceSub, Nat.reduceMul, Nat.reducePow, Nat.reduceLT, Nat.reduceLeDiff, Nat.reduceEqDiff, Int.reduceAdd, Int.reduceSub, Int.reduceMul, Int.reduceNeg, Int.reducePow, Int.reduceLT, Int.reduceLE, Int.reduceEq, Int.reduceAbs, Int.reduceToNat, reduceCtorEq, show ¬ ((tl.length : Int) + 1 + 1 + 1 + 1 = 3) by omega]
        by_cases h10 : w = ("free" : Str)
        · subst h10
          match xs with
          | [] => rw [sn_free bl _ (by simp)]; simp only [↓kW, kP, String.reduceEq, Nat.reduceAdd, Nat.reduceSub, Nat.reduceMul, Nat.reducePow, Nat.reduceLT, Nat.reduceLeDiff, Nat.reduceEqDiff, Int.reduceAdd, Int.reduceSub, Int.reduceMul, Int.reduceNeg, Int.reducePow, Int.reduceLT, Int.reduceLE, Int.reduceEq, Int.reduceAbs, Int.reduceToNat, reduceCtorEq]
          | [x0] =>
            rw [st_free]
            cases e0 : nameB x0 <;> simp only [↓kW, kP, String.reduceEq, Nat.reduceAdd, Nat.reduceSub, Nat.reduceMul, Nat.reducePow, Nat.reduceLT, Nat.reduceLeDiff, Nat.reduceEqDiff, Int.reduceAdd, Int.reduceSub, Int.reduceMul, Int.reduceNeg, Int.reducePow, Int.reduceLT, Int.reduceLE, Int.reduceEq, Int.reduceAbs, Int.reduceToNat, reduceCtorEq, e0, wc_eq (NM x0)]
          | x0 :: x1 :: tl => rw [sn_free bl _ (by simp only [List.length_cons]; omega)]; simp only [↓kW, kP, String.reduceEq, Nat.reduceAdd, Nat.reduceSub, Nat.reduceMul, Nat.reducePow, Nat.reduceLT, Nat.reduceLeDiff, Nat.reduceEqDiff, Int.reduceAdd, Int.reduceSub, Int.reduceMul, Int.reduceNeg, Int.reducePow, Int.reduceLT, Int.reduceLE, Int.reduceEq, Int.reduceAbs, Int.reduceToNat, reduceCtorEq, show ¬ ((tl.length : Int) + 1 + 1 + 1 = 2) by omega]
        by_cases h11 : w = ("if" : Str)
        · subst h11
          match xs with
          | [] => rw [sn_if bl _ (by simp)]; simp only [↓kW, kP, String.reduceEq, Nat.reduceAdd, Nat.reduceSub, Nat.reduceMul, Nat.reducePow, Nat.reduceLT, Nat.reduceLeDiff, Nat.reduceEqDiff, Int.reduceAdd, Int.reduceSub, Int.reduceMul, Int.reduceNeg, Int.reducePow, Int.reduceLT, Int.reduceLE, Int.reduceEq, Int.reduceAbs, Int.reduceToNat, reduceCtorEq]
          | [x0] => rw [sn_if bl _ (by simp)]; simp only [↓kW, kP, String.reduceEq, Nat.reduceAdd, Nat.reduceSub, Nat.reduceMul, Nat.reducePow, Nat.reduceLT, Nat.reduceLeDiff, Nat.reduceEqDiff, Int.reduceAdd, Int.reduceSub, Int.reduceMul, Int.reduceNeg, Int.reducePow, Int.reduceLT, Int.reduceLE, Int.reduceEq, Int.reduceAbs, Int.reduceToNat, reduceCtorEq]
          | [x0, x1] => rw [sn_if bl _ (by simp)]; simp only [↓kW, kP, String.reduceEq, Nat.reduceAdd, Nat.reduceSub, Nat.reduceMul, Nat.reducePow, Nat.reduceLT, Nat.reduceLeDiff, Nat.reduceEqDiff, Int.reduceAdd, Int.reduceSub, Int.reduceMul, Int.reduceNeg, Int.reducePow, Int.reduceLT, Int.reduceLE, Int.reduceEq, Int.reduceAbs, Int.reduceToNat, reduceCtorEq]
          | [x0, x1, x2] =>
            rw [st_if]
            cases e0 : exprB 5 x0 <;> cases e1 : bl x1 <;> cases e2 : bl x2 <;> simp only [↓kW, kP, String.reduceEq, Nat.reduceAdd, Nat.reduceSub, Nat.reduceMul, Nat.reducePow, Nat.reduceLT, Nat.reduceLeDiff, Nat.reduceEqDiff, Int.reduceAdd, Int.reduceSub, Int.reduceMul, Int.reduceNeg, Int.reducePow, Int.reduceLT, Int.reduceLE, Int.reduceEq, Int.reduceAbs, Int.reduceToNat, reduceCtorEq, e0, e1, e2, wc_eq (LE x0), wc_eq (hB x1), wc_eq (hB x2)]
          | x0 :: x1 :: x2 :: x3 :: tl => rw [sn_if bl _ (by simp only [List.length_cons]; omega)]; simp only [↓kW, kP, String.reduceEq, Nat.reduceAdd, Nat.reduceSub, Nat.reduceMul, Nat.reducePow, Nat.reduceLT, Nat.reduceLeDiff, Nat.reduceEqDiff, Int.reduceAdd, Int.reduceSub, Int.reduceMul, Int.reduceNeg, Int.reducePow, Int.reduceLT, Int.reduceLE, Int.reduceEq, Int.reduceAbs, Int.reduceToNat, reduceCtorEq, show ¬ ((tl.length : Int) + 1 + 1 + 1 + 1 + 1 = 4) by omega]
        by_cases h12 : w = ("while" : Str)
        · subst h12
          match xs with
          | [] => rw [sn_while bl _ (by simp)]; simp only [↓kW, kP, String.reduceEq, Nat.reduceAdd, Nat.reduceSub, Nat.reduceMul, Nat.reducePow, Nat.reduceLT, Nat.reduceLeDiff, Nat.reduceEqDiff, Int.reduceAdd, Int.reduceSub, Int.reduceMul, Int.reduceNeg, Int.reducePow, Int.reduceLT, Int.reduceLE, Int.reduceEq, Int.reduceAbs, Int.reduceToNat, reduceCtorEq]
          | [x0] => rw [sn_while bl _ (by simp)]; simp only [↓kW, kP, String.reduceEq, Nat.reduceAdd, Nat.reduceSub, Nat.reduceMul, Nat.reducePow, Nat.reduceLT, Nat.reduceLeDiff, Nat.reduceEqDiff, Int.reduceAdd, Int.reduceSub, Int.reduceMul, Int.reduceNeg, Int.reducePow, Int.reduceLT, Int.reduceLE, Int.reduceEq, Int.reduceAbs, Int.reduceToNat, reduceCtorEq]
          | [x0, x1] =>
            rw [st_while]
            cases e0 : exprB 5 x0 <;> cases e1 : bl x1 <;> simp only [↓kW, kP, String.reduceEq, Nat.reduceAdd, Nat.reduceSub, Nat.reduceMul, Nat.reducePow, Nat.reduceLT, Nat.reduceLeDiff, Nat.reduceEqDiff, Int.reduceAdd, Int.reduceSub, Int.reduceMul, Int.reduceNeg, Int.reducePow, Int.reduceLT, Int.reduceLE, Int.reduceEq, Int.reduceAbs, Int.reduceToNat, reduceCtorEq, e0, e1, wc_eq (LE x0), wc_eq (hB x1)]
          | x0 :: x1 :: x2 :: tl => rw [sn_while bl _ (by simp only [List.length_cons]; omega)]; simp only [↓kW, kP, String.reduceEq, Nat.reduceAdd, Nat.reduceSub, Nat.reduceMul, Nat.reducePow, Nat.reduceLT, Nat.reduceLeDiff, Nat.reduceEqDiff, Int.reduceAdd, Int.reduceSub, Int.reduceMul, Int.reduceNeg, Int.reducePow, Int.reduceLT, Int.reduceLE, Int.reduceEq, Int.reduceAbs, Int.reduceToNat, reduceCtorEq, show ¬ ((tl.length : Int) + 1 + 1 + 1 + 1 = 3) by omega]
        by_cases h13 : w = ("look" : Str)
        · subst h13
          match xs with
          | [] => rw [sn_look bl _ (by simp)]; simp only [↓kW, kP, String.reduceEq, Nat.reduceAdd, Nat.reduceSub, Nat.reduceMul, Nat.reducePow, Nat.reduceLT, Nat.reduceLeDiff, Nat.reduceEqDiff, Int.reduceAdd, Int.reduceSub, Int.reduceMul, Int.reduceNeg, Int.reducePow, Int.reduceLT, Int.reduceLE, Int.reduceEq, Int.reduceAbs, Int.reduceToNat, reduceCtorEq]
          | [x0] => rw [sn_look bl _ (by simp)]; simp only [↓kW, kP, String.reduceEq, Nat.reduceAdd, Nat.reduceSub, Nat.reduceMul, Nat.reducePow, Nat.reduceLT, Nat.reduceLeDiff, Nat.reduceEqDiff, Int.reduceAdd, Int.reduceSub, Int.reduceMul, Int.reduceNeg, Int.reducePow, Int.reduceLT, Int.reduceLE, Int.reduceEq, Int.reduceAbs, Int.reduceToNat, reduceCtorEq]
          | [x0, x1] => rw [sn_look bl _ (by simp)]; simp only [↓kW, kP, String.reduceEq, Nat.reduceAdd, Nat.reduceSub, Nat.reduceMul, Nat.reducePow, Nat.reduceLT, Nat.reduceLeDiff, Nat.reduceEqDiff, Int.reduceAdd, Int.reduceSub, Int.reduceMul, Int.reduceNeg, Int.reducePow, Int.reduceLT, Int.reduceLE, Int.reduceEq, Int.reduceAbs, Int.reduceToNat, reduceCtorEq]
          | [x0, x1, x2] =>
            rw [st_look]
            cases e0 : nameB x0 <;> cases e1 : nameB x1 <;> cases e2 : bl x2 <;> simp only [↓kW, kP, String.reduceEq, Nat.reduceAdd, Nat.reduceSub, Nat.reduceMul, Nat.reducePow, Nat.reduceLT, Nat.reduceLeDiff, Nat.reduceEqDiff, Int.reduceAdd, Int.reduceSub, Int.reduceMul, Int.reduceNeg, Int.reducePow, Int.reduceLT, Int.reduceLE, Int.reduceEq, Int.reduceAbs, Int.reduceToNat, reduceCtorEq, e0, e1, e2, wc_eq (NM x0), wc_eq (NM x1), wc_eq (hB x2)]
          | x0 :: x1 :: x2 :: x3 :: tl => rw [sn_look bl _ (by simp only [List.length_cons]; omega)]; simp only [↓kW, kP, String.reduceEq, Nat.reduceAdd, Nat.reduceSub, Nat.reduceMul, Nat.reducePow, Nat.reduceLT, Nat.reduceLeDiff, Nat.reduceEqDiff, Int.reduceAdd, Int.reduceSub, Int.reduceMul, Int.reduceNeg, Int.reducePow, Int.reduceLT, Int.reduceLE, Int.reduceEq, Int.reduceAbs, Int.reduceToNat, reduceCtorEq, show ¬ ((tl.length : Int) + 1 + 1 + 1 + 1 + 1 = 4) by omega]
        by_cases h14 : w = ("alter" : Str)
        · subst h14
          match xs with
          | [] => rw [sn_alter bl _ (by simp)]; simp only [↓kW, kP, String.reduceEq, Nat.reduceAdd, Nat.reduceSub, Nat.reduceMul, Nat.reducePow, Nat.reduceLT, Nat.reduceLeDiff, Nat.reduceEqDiff, Int.reduceAdd, Int.reduceSub, Int.reduceMul, Int.reduceNeg, Int.reducePow, Int.reduceLT, Int.reduceLE, Int.reduceEq, Int.reduceAbs, Int.reduceToNat, reduceCtorEq]
          | [x0] => rw [sn_alter bl _ (by simp)]; simp only [↓kW, kP, String.reduceEq, Nat.reduceAdd, Nat.reduceSub, Nat.reduceMul, Nat.reducePow, Nat.reduceLT, Nat.reduceLeDiff, Nat.reduceEqDiff, Int.reduceAdd, Int.reduceSub, Int.reduceMul, Int.reduceNeg, Int.reducePow, Int.reduceLT, Int.reduceLE, Int.reduceEq, Int.reduceAbs, Int.reduceToNat, reduceCtorEq]
          | [x0, x1] => rw [sn_alter bl _ (by simp)]; simp only [↓kW, kP, String.reduceEq, Nat.reduceAdd, Nat.reduceSub, Nat.reduceMul, Nat.reducePow, Nat.reduceLT, Nat.reduceLeDiff, Nat.reduceEqDiff, Int.reduceAdd, Int.reduceSub, Int.reduceMul, Int.reduceNeg, Int.reducePow, Int.reduceLT, Int.reduceLE, Int.reduceEq, Int.reduceAbs, Int.reduceToNat, reduceCtorEq]
          | [x0, x1, x2] =>
            rw [st_alter]
            cases e0 : nameB x0 <;> cases e1 : nameB x1 <;> cases e2 : bl x2 <;> simp only [↓kW, kP, String.reduceEq, Nat.reduceAdd, Nat.reduceSub, Nat.reduceMul, Nat.reducePow, Nat.reduceLT, Nat.reduceLeDiff, Nat.reduceEqDiff, Int.reduceAdd, Int.reduceSub, Int.reduceMul, Int.reduceNeg, Int.reducePow, Int.reduceLT, Int.reduceLE, Int.reduceEq, Int.reduceAbs, Int.reduceToNat, reduceCtorEq, e0, e1, e2, wc_eq (NM x0), wc_eq (NM x1), wc_eq (hB x2)]
          | x0 :: x1 :: x2 :: x3 :: tl => rw [sn_alter bl _ (by simp only [List.length_cons]; omega)]; simp only [↓kW, kP, String.reduceEq, Nat.reduceAdd, Nat.reduceSub, Nat.reduceMul, Nat.reducePow, Nat.reduceLT, Nat.reduceLeDiff, Nat.reduceEqDiff, Int.reduceAdd, Int.reduceSub, Int.reduceMul, Int.reduceNeg, Int.reducePow, Int.reduceLT, Int.reduceLE, Int.reduceEq, Int.reduceAbs, Int.reduceToNat, reduceCtorEq, show ¬ ((tl.length : Int) + 1 + 1 + 1 + 1 + 1 = 4) by omega]
        by_cases h15 : w = ("fence" : Str)
        · subst h15
          match xs with
          | [] => rw [sn_fence bl _ (by simp)]; simp only [↓kW, kP, String.reduceEq, Nat.reduceAdd, Nat.reduceSub, Nat.reduceMul, Nat.reducePow, Nat.reduceLT, Nat.reduceLeDiff, Nat.reduceEqDiff, Int.reduceAdd, Int.reduceSub, Int.reduceMul, Int.reduceNeg, Int.reducePow, Int.reduceLT, Int.reduceLE, Int.reduceEq, Int.reduceAbs, Int.reduceToNat, reduceCtorEq]
          | [x0] => rw [sn_fence bl _ (by simp)]; simp only [↓kW, kP, String.reduceEq, Nat.reduceAdd, Nat.reduceSub, Nat.reduceMul, Nat.reducePow, Nat.reduceLT, Nat.reduceLeDiff, Nat.reduceEqDiff, Int.reduceAdd, Int.reduceSub, Int.reduceMul, Int.reduceNeg, Int.reducePow, Int.reduceLT, Int.reduceLE, Int.reduceEq, Int.reduceAbs, Int.reduceToNat, reduceCtorEq]
          | [x0, x1] =>
            rw [st_fence]
            cases e0 : nameB x0 <;> cases e1 : bl x1 <;> simp only [↓kW, kP, String.reduceEq, Nat.reduceAdd, Nat.reduceSub, Nat.reduceMul, Nat.reducePow, Nat.reduceLT, Nat.reduceLeDiff, Nat.reduceEqDiff, Int.reduceAdd, Int.reduceSub, Int.reduceMul, Int.reduceNeg, Int.reducePow, Int.reduceLT, Int.reduceLE, Int.reduceEq, Int.reduceAbs, Int.reduceToNat, reduceCtorEq, e0, e1, wc_eq (NM x0), wc_eq (hB x1)]
          | x0 :: x1 :: x2 :: tl => rw [sn_fence bl _ (by simp only [List.length_cons]; omega)]; simp only [↓kW, kP, String.reduceEq, Nat.reduceAdd, Nat.reduceSub, Nat.reduceMul, Nat.reducePow, Nat.reduceLT, Nat.reduceLeDiff, Nat.reduceEqDiff, Int.reduceAdd, Int.reduceSub, Int.reduceMul, Int.reduceNeg, Int.reducePow, Int.reduceLT, Int.reduceLE, Int.reduceEq, Int.reduceAbs, Int.reduceToNat, reduceCtorEq, show ¬ ((tl.length : Int) + 1 + 1 + 1 + 1 = 3) by omega]
        rw [st_none bl w xs (by simp [tblLook, t_STATEMENTS, Ne.symm h0, Ne.symm h1, Ne.symm h2, Ne.symm h3, Ne.symm h4, Ne.symm h5, Ne.symm h6, Ne.symm h7, Ne.symm h8, Ne.symm h9, Ne.symm h10, Ne.symm h11, Ne.symm h12, Ne.symm h13, Ne.symm h14, Ne.symm h15])]
        simp only [↓kW, kP, String.reduceEq, Nat.reduceAdd, Nat.reduceSub, Nat.reduceMul, Nat.reducePow, Nat.reduceLT, Nat.reduceLeDiff, Nat.reduceEqDiff, Int.reduceAdd, Int.reduceSub, Int.reduceMul, Int.reduceNeg, Int.reducePow, Int.reduceLT, Int.reduceLE, Int.reduceEq, Int.reduceAbs, Int.reduceToNat, reduceCtorEq, h0, h1, h2, h3, h4, h5, h6, h7, h8, h9, h10, h11, h12, h13, h14, h15]
      | _ => simp only [↓kW, kP, String.reduceEq, Nat.reduceAdd, Nat.reduceSub, Nat.reduceMul, Nat.reducePow, Nat.reduceLT, Nat.reduceLeDiff, Nat.reduceEqDiff, Int.reduceAdd, Int.reduceSub, Int.reduceMul, Int.reduceNeg, Int.reducePow, Int.reduceLT, Int.reduceLE, Int.reduceEq, Int.reduceAbs, Int.reduceToNat, reduceCtorEq, stB]
  | _ => simp only [↓kW, kP, String.reduceEq, Nat.reduceAdd, Nat.reduceSub, Nat.reduceMul, Nat.reducePow, Nat.reduceLT, Nat.reduceLeDiff, Nat.reduceEqDiff, Int.reduceAdd, Int.reduceSub, Int.reduceMul, Int.reduceNeg, Int.reducePow, Int.reduceLT, Int.reduceLE, Int.reduceEq, Int.reduceAbs, Int.reduceToNat, reduceCtorEq, stB]
theorem lblock_ok : ∀ (k N : Nat), 21 + 2 * k ≤ N → ∀ d, (fs N).law_is_block [B.v d, B.v (.int k)] = some (.bool (blockB k d), [])
  | 0, N, h, d => by
    obtain ⟨n, rfl⟩ : ∃ n, N = n + 1 := ⟨N - 1, by omega⟩
    refine of_wc ?_
    show wc (bodyFn [] 1 (b_law_is_block (fs n))) [B.v d, B.v (.int 0)] _
    unfold b_law_is_block
    simp only [↓kW, kP, String.reduceEq, Nat.reduceAdd, Nat.reduceSub, Nat.reduceMul, Nat.reducePow, Nat.reduceLT, Nat.reduceLeDiff, Nat.reduceEqDiff, Int.reduceAdd, Int.reduceSub, Int.reduceMul, Int.reduceNeg, Int.reducePow, Int.reduceLT, Int.reduceLE, Int.reduceEq, Int.reduceAbs, Int.reduceToNat, reduceCtorEq, blockB]
  | k + 1, N, h, d => by
    obtain ⟨n, rfl⟩ : ∃ n, N = n + 2 := ⟨N - 2, by omega⟩
    have S := lst_ok (N := n) (by omega) (lblock_ok k n (by omega))
    refine of_wc ?_
    show wc (bodyFn [] 1 (b_law_is_block (fs (n + 1)))) [B.v d, B.v (.int ((k : Int) + 1))] _
    unfold b_law_is_block
    cases d with
    | tuple xs =>
      simp only [↓kW, kP, String.reduceEq, Nat.reduceAdd, Nat.reduceSub, Nat.reduceMul, Nat.reducePow, Nat.reduceLT, Nat.reduceLeDiff, Nat.reduceEqDiff, Int.reduceAdd, Int.reduceSub, Int.reduceMul, Int.reduceNeg, Int.reducePow, Int.reduceLT, Int.reduceLE, Int.reduceEq, Int.reduceAbs, Int.reduceToNat, reduceCtorEq, show ¬ ((k : Int) + 1 = 0) by omega]
      refine we_lcP (fun x => .bool (stB (blockB k) x)) ?_
      simp only [↓kW, kP, String.reduceEq, Nat.reduceAdd, Nat.reduceSub, Nat.reduceMul, Nat.reducePow, Nat.reduceLT, Nat.reduceLeDiff, Nat.reduceEqDiff, Int.reduceAdd, Int.reduceSub, Int.reduceMul, Int.reduceNeg, Int.reducePow, Int.reduceLT, Int.reduceLE, Int.reduceEq, Int.reduceAbs, Int.reduceToNat, reduceCtorEq]
      refine ⟨fun d _ => ?_, ?_⟩
      · simp only [↓kW, kP, String.reduceEq, Nat.reduceAdd, Nat.reduceSub, Nat.reduceMul, Nat.reducePow, Nat.reduceLT, Nat.reduceLeDiff, Nat.reduceEqDiff, Int.reduceAdd, Int.reduceSub, Int.reduceMul, Int.reduceNeg, Int.reducePow, Int.reduceLT, Int.reduceLE, Int.reduceEq, Int.reduceAbs, Int.reduceToNat, reduceCtorEq, wc_eq (S d)]
      · simp only [↓kW, kP, String.reduceEq, Nat.reduceAdd, Nat.reduceSub, Nat.reduceMul, Nat.reducePow, Nat.reduceLT, Nat.reduceLeDiff, Nat.reduceEqDiff, Int.reduceAdd, Int.reduceSub, Int.reduceMul, Int.reduceNeg, Int.reducePow, Int.reduceLT, Int.reduceLE, Int.reduceEq, Int.reduceAbs, Int.reduceToNat, reduceCtorEq, allB_map, blockB, List.all_map]
        rfl
    | _ => simp only [↓kW, kP, String.reduceEq, Nat.reduceAdd, Nat.reduceSub, Nat.reduceMul, Nat.reducePow, Nat.reduceLT, Nat.reduceLeDiff, Nat.reduceEqDiff, Int.reduceAdd, Int.reduceSub, Int.reduceMul, Int.reduceNeg, Int.reducePow, Int.reduceLT, Int.reduceLE, Int.reduceEq, Int.reduceAbs, Int.reduceToNat, reduceCtorEq, blockB, show ¬ ((k : Int) + 1 = 0) by omega]

theorem sm3 {n : Nat} {w : Str} {xs : List PyData} (hl : xs.length ≤ 4) (h : ∀ x ∈ xs, Sm n x) : Sm (n + 1) (.tuple (.str w :: xs)) := sm_cons (by omega) (sm_str _ _) h
theorem sm_e {n : Nat} {e : PyData} (hn : 21 ≤ n) (h : exprB 5 e = true) : Sm n e := (exprB_sm h).mono hn
def costS : Nat → Nat
  | 0 => 400000
  | d + 1 => 400000 + 2 * (1 + 4 * costS d)
theorem costS_pos : ∀ d, 400000 ≤ costS d
  | 0 => Nat.le_refl _
  | d + 1 => by show 400000 ≤ 400000 + 2 * (1 + 4 * costS d); omega
theorem costS_mono {a b : Nat} (h : a ≤ b) : costS a ≤ costS b := by
  induction h with
  | refl => exact Nat.le_refl _
  | @step m h ih => show _ ≤ 400000 + 2 * (1 + 4 * costS m); omega
def BlockR (deep : Nat) : Prop := ∀ (N k : Nat) (m : M) (r : Int) (Q : PyData → Env' → Prop), 2 * deep + 19 ≤ N → Hd (k + (1 + 4 * costS deep)) m → (∀ d m' r', blockB (deep + 1) d = true → Sm (23 + 2 * deep) d → Hd k m' → Q d [B.o m', B.o (.lst [.int r'])]) → wc (fs N).law_block [B.o m, B.v (.int deep), B.o (.lst [.int r])] Q
def StmtR (deep : Nat) : Prop := ∀ (N k : Nat) (m : M) (r : Int) (Q : PyData → Env' → Prop), 2 * deep + 18 ≤ N → Hd (k + costS deep) m → (∀ d m' r', stB (blockB deep) d = true → Sm (22 + 2 * deep) d → Hd k m' → Q d [B.o m', B.o (.lst [.int r'])]) → wc (fs N).law_statement [B.o m, B.v (.int deep), B.o (.lst [.int r])] Q
theorem block_of {deep : Nat} (ih : StmtR deep) : BlockR deep := by
  intro N k m r Q hN h q
  obtain ⟨n, rfl, hn⟩ := fsN (c := 2 * deep + 18) hN
  show wc (bodyFn [0, 2] 2 (b_law_block (fs n))) _ _
  unfold b_law_block
  simp only [↓kW, kP, String.reduceEq, Nat.reduceAdd, Nat.reduceSub, Nat.reduceMul, Nat.reducePow, Nat.reduceLT, Nat.reduceLeDiff, Nat.reduceEqDiff, Int.reduceAdd, Int.reduceSub, Int.reduceMul, Int.reduceNeg, Int.reducePow, Int.reduceLT, Int.reduceLE, Int.reduceEq, Int.reduceAbs, Int.reduceToNat, reduceCtorEq]
  refine ws_for (fun j E => ∃ m' r' xs a, E = [B.o m', B.v (.int deep), B.o (.lst [.int r']), B.o (.lst xs), a] ∧ Hd (k + j * costS deep) m' ∧ xs.length + j ≤ 4 ∧ ∀ x ∈ xs, stB (blockB deep) x = true ∧ Sm (22 + 2 * deep) x) ?_
  simp only [↓kW, kP, String.reduceEq, Nat.reduceAdd, Nat.reduceSub, Nat.reduceMul, Nat.reducePow, Nat.reduceLT, Nat.reduceLeDiff, Nat.reduceEqDiff, Int.reduceAdd, Int.reduceSub, Int.reduceMul, Int.reduceNeg, Int.reducePow, Int.reduceLT, Int.reduceLE, Int.reduceEq, Int.reduceAbs, Int.reduceToNat, reduceCtorEq]
  refine take_r (k := k + 4 * costS deep) (by omega) (h.less (by omega)) (by omega) (by omega) fun i m1 i0 i1 h1 => ?_
  simp only [↓kW, kP, String.reduceEq, Nat.reduceAdd, Nat.reduceSub, Nat.reduceMul, Nat.reducePow, Nat.reduceLT, Nat.reduceLeDiff, Nat.reduceEqDiff, Int.reduceAdd, Int.reduceSub, Int.reduceMul, Int.reduceNeg, Int.reducePow, Int.reduceLT, Int.reduceLE, Int.reduceEq, Int.reduceAbs, Int.reduceToNat, reduceCtorEq, itR_0 (n := i) (by omega) (by omega)]
  refine ⟨⟨m1, r, [], B.u, rfl, ?_, ?_, fun _ h => (List.not_mem_nil h).elim⟩, ?_, ?_⟩
  · rw [len_rng']
    have : i.toNat * costS deep ≤ 4 * costS deep := Nat.mul_le_mul_right _ (by omega)
    exact h1.less (by omega)
  · rw [len_rng']; simp; omega
  · rintro d hd j E ⟨m2, r2, xs, a, rfl, h2, hl, hx⟩
    refine ⟨_, rfl, ?_⟩
    rw [Nat.succ_mul] at h2
    have l3 : xs.length < 16777216 := by omega
    by_cases c : 0 < r2
    · simp only [↓kW, kP, String.reduceEq, Nat.reduceAdd, Nat.reduceSub, Nat.reduceMul, Nat.reducePow, Nat.reduceLT, Nat.reduceLeDiff, Nat.reduceEqDiff, Int.reduceAdd, Int.reduceSub, Int.reduceMul, Int.reduceNeg, Int.reducePow, Int.reduceLT, Int.reduceLE, Int.reduceEq, Int.reduceAbs, Int.reduceToNat, reduceCtorEq, c]
      refine ih n (k + j * costS deep) m2 r2 _ (by omega) (h2.less (by omega)) fun s m3 r3 hs ss h3 => ?_
      simp only [↓kW, kP, String.reduceEq, Nat.reduceAdd, Nat.reduceSub, Nat.reduceMul, Nat.reducePow, Nat.reduceLT, Nat.reduceLeDiff, Nat.reduceEqDiff, Int.reduceAdd, Int.reduceSub, Int.reduceMul, Int.reduceNeg, Int.reducePow, Int.reduceLT, Int.reduceLE, Int.reduceEq, Int.reduceAbs, Int.reduceToNat, reduceCtorEq, l3]
      refine ⟨_, _, _, _, rfl, h3, by simp; omega, fun x hxx => ?_⟩
      rcases List.mem_append.mp hxx with h | h
      · exact hx x h
      · rw [List.mem_singleton.mp h]; exact ⟨hs, ss⟩
    · simp only [↓kW, kP, String.reduceEq, Nat.reduceAdd, Nat.reduceSub, Nat.reduceMul, Nat.reducePow, Nat.reduceLT, Nat.reduceLeDiff, Nat.reduceEqDiff, Int.reduceAdd, Int.reduceSub, Int.reduceMul, Int.reduceNeg, Int.reducePow, Int.reduceLT, Int.reduceLE, Int.reduceEq, Int.reduceAbs, Int.reduceToNat, reduceCtorEq, c]
      exact ⟨_, _, _, _, rfl, h2.less (by omega), by omega, hx⟩
  · rintro E ⟨m2, r2, xs, a, rfl, h2, hl, hx⟩
    simp only [↓kW, kP, String.reduceEq, Nat.reduceAdd, Nat.reduceSub, Nat.reduceMul, Nat.reducePow, Nat.reduceLT, Nat.reduceLeDiff, Nat.reduceEqDiff, Int.reduceAdd, Int.reduceSub, Int.reduceMul, Int.reduceNeg, Int.reducePow, Int.reduceLT, Int.reduceLE, Int.reduceEq, Int.reduceAbs, Int.reduceToNat, reduceCtorEq]
    refine q _ _ _ ?_ ?_ (h2.less (by omega))
    · simp only [blockB, List.all_eq_true]
      exact fun x h => (hx x h).1
    · rw [show 23 + 2 * deep = (22 + 2 * deep) + 1 by omega]
      exact ⟨by omega, fun x h => (hx x h).2⟩
theorem cut3_2 {α : Type} (a x y : α) : cutP [a, x, y] none (some 2) = [a, x] := rfl
theorem cut3_3 {α : Type} (a x y : α) : cutP [a, x, y] none (some 3) = [a, x, y] := rfl
def words5 : List PyData := [.str "if", .str "while", .str "look", .str "alter", .str "fence"]
theorem mul_words (deep : Nat) : ∃ L : List PyData, oMul (.list [.str "if", .str "while", .str "look", .str "alter", .str "fence"]) (.int (b2i (decide (0 < (deep : Int))))) = some (.list L) ∧ L.length ≤ 5 ∧ ∀ w ∈ L, 0 < deep ∧ w ∈ words5 := by
  by_cases c : 0 < deep
  · exact ⟨words5, by rw [show decide (0 < (deep : Int)) = true from decide_eq_true (by omega)]; rfl, by decide, fun w h => ⟨c, h⟩⟩
  · exact ⟨[], by rw [show decide (0 < (deep : Int)) = false from decide_eq_false (by omega)]; rfl, by decide, fun w h => (List.not_mem_nil h).elim⟩
set_option maxHeartbeats 8000000 in
theorem stmt_of {deep : Nat} (ihb : ∀ d, deep = d + 1 → BlockR d) : StmtR deep := by
  intro N k m r Q hN h q
  obtain ⟨n, rfl, hn⟩ := fsN (c := 2 * deep + 17) hN
  show wc (bodyFn [0, 2] 7 (b_law_statement (fs n))) _ _
  have c4 : costE 4 = 34100 := rfl
  have c5 : costE 5 = 136500 := rfl
  have cp := costS_pos deep
  obtain ⟨L, eL, lL, hL⟩ := mul_words deep
  obtain ⟨c, hc⟩ : ∃ c, c + 400000 = costS deep := ⟨costS deep - 400000, by omega⟩
  rw [← hc] at h
  unfold b_law_statement
  simp only [↓kW, kP, String.reduceEq, Nat.reduceAdd, Nat.reduceSub, Nat.reduceMul, Nat.reducePow, Nat.reduceLT, Nat.reduceLeDiff, Nat.reduceEqDiff, Int.reduceAdd, Int.reduceSub, Int.reduceMul, Int.reduceNeg, Int.reducePow, Int.reduceLT, Int.reduceLE, Int.reduceEq, Int.reduceAbs, Int.reduceToNat, reduceCtorEq, ↓eL, show L.length + 11 ≤ 16777216 by omega, show 11 + L.length ≤ 16777216 by omega]
  refine of_r (k := k + c + 399999) (by omega) (h.less (by omega)) (by simp) (by simp; omega) fun w m1 hw h1 => ?_
  simp only [↓kW, kP, String.reduceEq, Nat.reduceAdd, Nat.reduceSub, Nat.reduceMul, Nat.reducePow, Nat.reduceLT, Nat.reduceLeDiff, Nat.reduceEqDiff, Int.reduceAdd, Int.reduceSub, Int.reduceMul, Int.reduceNeg, Int.reducePow, Int.reduceLT, Int.reduceLE, Int.reduceEq, Int.reduceAbs, Int.reduceToNat, reduceCtorEq]
  refine name_r (k := k + c + 399992) (by omega) (h1.less (by omega)) fun z1 m2 hz1 h2 => ?_
  simp only [↓kW, kP, String.reduceEq, Nat.reduceAdd, Nat.reduceSub, Nat.reduceMul, Nat.reducePow, Nat.reduceLT, Nat.reduceLeDiff, Nat.reduceEqDiff, Int.reduceAdd, Int.reduceSub, Int.reduceMul, Int.reduceNeg, Int.reducePow, Int.reduceLT, Int.reduceLE, Int.reduceEq, Int.reduceAbs, Int.reduceToNat, reduceCtorEq]
  refine name_r (k := k + c + 399985) (by omega) (h2.less (by omega)) fun z2 m3 hz2 h3 => ?_
  have hw' : w ∈ [PyData.str "let", .str "split", .str "set", .str "put", .str "say", .str "do", .str "drop", .str "give", .str "fail", .str "poke", .str "free"] ∨ (0 < deep ∧ w ∈ words5) := by
    simp only [List.mem_cons, List.not_mem_nil, or_false] at hw ⊢
    rcases hw with h | h | h | h | h | h | h | h | h | h | h | h
    all_goals first | (exact .inr (hL w h)) | (simp [h])
  have sn : ∀ z, Sm (21 + 2 * deep) (.str z) := fun z => sm_str _ z
  have se : ∀ e, exprB 5 e = true → Sm (21 + 2 * deep) e := fun e he => sm_e (by omega) he
  have S0 : ∀ (w : Str) (xs : List PyData), xs.length ≤ 4 → (∀ x ∈ xs, Sm (21 + 2 * deep) x) → Sm (22 + 2 * deep) (.tuple (.str w :: xs)) := fun w xs hl hx => by rw [show 22 + 2 * deep = (21 + 2 * deep) + 1 by omega]; exact sm3 hl hx
  simp only [List.mem_cons, List.not_mem_nil, or_false, words5] at hw'
  rcases hw' with (rfl | rfl | rfl | rfl | rfl | rfl | rfl | rfl | rfl | rfl | rfl) | ⟨hd, hw'⟩
  · -- let
    simp only [↓kW, kP, String.reduceEq, Nat.reduceAdd, Nat.reduceSub, Nat.reduceMul, Nat.reducePow, Nat.reduceLT, Nat.reduceLeDiff, Nat.reduceEqDiff, Int.reduceAdd, Int.reduceSub, Int.reduceMul, Int.reduceNeg, Int.reducePow, Int.reduceLT, Int.reduceLE, Int.reduceEq, Int.reduceAbs, Int.reduceToNat, reduceCtorEq]
    refine take_r (k := k + c + 389999) (by omega) (h3.less (by omega)) (by omega) (by omega) fun t m4 t0 t1 h4 => ?_
    obtain ⟨t, rfl⟩ := Int.eq_ofNat_of_zero_le t0
    simp only [↓kW, kP, String.reduceEq, Nat.reduceAdd, Nat.reduceSub, Nat.reduceMul, Nat.reducePow, Nat.reduceLT, Nat.reduceLeDiff, Nat.reduceEqDiff, Int.reduceAdd, Int.reduceSub, Int.reduceMul, Int.reduceNeg, Int.reducePow, Int.reduceLT, Int.reduceLE, Int.reduceEq, Int.reduceAbs, Int.reduceToNat, reduceCtorEq]
    rw [show (1 : Int) + (t : Int) = ((1 + t : Nat) : Int) by omega]
    refine expr_r (1 + t) n (k + c) m4 _ _ (by omega) (by omega) (h4.less (by have := costE_mono (show 1 + t ≤ 5 by omega); omega)) fun e m5 r5 he5 h5 => ?_
    have he := exprB_mono (show 1 + t ≤ 5 by omega) he5
    simp only [↓kW, kP, String.reduceEq, Nat.reduceAdd, Nat.reduceSub, Nat.reduceMul, Nat.reducePow, Nat.reduceLT, Nat.reduceLeDiff, Nat.reduceEqDiff, Int.reduceAdd, Int.reduceSub, Int.reduceMul, Int.reduceNeg, Int.reducePow, Int.reduceLT, Int.reduceLE, Int.reduceEq, Int.reduceAbs, Int.reduceToNat, reduceCtorEq]
    exact q _ _ _ (by rw [st_let]; simp [hz1, hz2, he]) (S0 _ _ (by simp) (by simp only [List.mem_cons, List.not_mem_nil, or_false]; rintro x (rfl | rfl) <;> first | exact sn _ | exact se _ (by assumption) | exact se _ he)) (h5.less (by omega))
  · -- split
    simp only [↓kW, kP, String.reduceEq, Nat.reduceAdd, Nat.reduceSub, Nat.reduceMul, Nat.reducePow, Nat.reduceLT, Nat.reduceLeDiff, Nat.reduceEqDiff, Int.reduceAdd, Int.reduceSub, Int.reduceMul, Int.reduceNeg, Int.reducePow, Int.reduceLT, Int.reduceLE, Int.reduceEq, Int.reduceAbs, Int.reduceToNat, reduceCtorEq]
    refine take_r (k := k + c + 389999) (by omega) (h3.less (by omega)) (by omega) (by omega) fun t m4 t0 t1 h4 => ?_
    obtain ⟨t, rfl⟩ := Int.eq_ofNat_of_zero_le t0
    simp only [↓kW, kP, String.reduceEq, Nat.reduceAdd, Nat.reduceSub, Nat.reduceMul, Nat.reducePow, Nat.reduceLT, Nat.reduceLeDiff, Nat.reduceEqDiff, Int.reduceAdd, Int.reduceSub, Int.reduceMul, Int.reduceNeg, Int.reducePow, Int.reduceLT, Int.reduceLE, Int.reduceEq, Int.reduceAbs, Int.reduceToNat, reduceCtorEq]
    rw [show (1 : Int) + (t : Int) = ((1 + t : Nat) : Int) by omega]
    refine expr_r (1 + t) n (k + c) m4 _ _ (by omega) (by omega) (h4.less (by have := costE_mono (show 1 + t ≤ 5 by omega); omega)) fun e m5 r5 he5 h5 => ?_
    have he := exprB_mono (show 1 + t ≤ 5 by omega) he5
    simp only [↓kW, kP, String.reduceEq, Nat.reduceAdd, Nat.reduceSub, Nat.reduceMul, Nat.reducePow, Nat.reduceLT, Nat.reduceLeDiff, Nat.reduceEqDiff, Int.reduceAdd, Int.reduceSub, Int.reduceMul, Int.reduceNeg, Int.reducePow, Int.reduceLT, Int.reduceLE, Int.reduceEq, Int.reduceAbs, Int.reduceToNat, reduceCtorEq]
    exact q _ _ _ (by rw [st_split]; simp [hz1, hz2, he]) (S0 _ _ (by simp) (by simp only [List.mem_cons, List.not_mem_nil, or_false]; rintro x (rfl | rfl | rfl) <;> first | exact sn _ | exact se _ (by assumption) | exact se _ he)) (h5.less (by omega))
  · -- set
    simp only [↓kW, kP, String.reduceEq, Nat.reduceAdd, Nat.reduceSub, Nat.reduceMul, Nat.reducePow, Nat.reduceLT, Nat.reduceLeDiff, Nat.reduceEqDiff, Int.reduceAdd, Int.reduceSub, Int.reduceMul, Int.reduceNeg, Int.reducePow, Int.reduceLT, Int.reduceLE, Int.reduceEq, Int.reduceAbs, Int.reduceToNat, reduceCtorEq]
    refine take_r (k := k + c + 389999) (by omega) (h3.less (by omega)) (by omega) (by omega) fun t m4 t0 t1 h4 => ?_
    obtain ⟨t, rfl⟩ := Int.eq_ofNat_of_zero_le t0
    simp only [↓kW, kP, String.reduceEq, Nat.reduceAdd, Nat.reduceSub, Nat.reduceMul, Nat.reducePow, Nat.reduceLT, Nat.reduceLeDiff, Nat.reduceEqDiff, Int.reduceAdd, Int.reduceSub, Int.reduceMul, Int.reduceNeg, Int.reducePow, Int.reduceLT, Int.reduceLE, Int.reduceEq, Int.reduceAbs, Int.reduceToNat, reduceCtorEq]
    rw [show (1 : Int) + (t : Int) = ((1 + t : Nat) : Int) by omega]
    refine expr_r (1 + t) n (k + c) m4 _ _ (by omega) (by omega) (h4.less (by have := costE_mono (show 1 + t ≤ 5 by omega); omega)) fun e m5 r5 he5 h5 => ?_
    have he := exprB_mono (show 1 + t ≤ 5 by omega) he5
    simp only [↓kW, kP, String.reduceEq, Nat.reduceAdd, Nat.reduceSub, Nat.reduceMul, Nat.reducePow, Nat.reduceLT, Nat.reduceLeDiff, Nat.reduceEqDiff, Int.reduceAdd, Int.reduceSub, Int.reduceMul, Int.reduceNeg, Int.reducePow, Int.reduceLT, Int.reduceLE, Int.reduceEq, Int.reduceAbs, Int.reduceToNat, reduceCtorEq]
    exact q _ _ _ (by rw [st_set]; simp [hz1, hz2, he]) (S0 _ _ (by simp) (by simp only [List.mem_cons, List.not_mem_nil, or_false]; rintro x (rfl | rfl) <;> first | exact sn _ | exact se _ (by assumption) | exact se _ he)) (h5.less (by omega))
  · -- put
    simp only [↓kW, kP, String.reduceEq, Nat.reduceAdd, Nat.reduceSub, Nat.reduceMul, Nat.reducePow, Nat.reduceLT, Nat.reduceLeDiff, Nat.reduceEqDiff, Int.reduceAdd, Int.reduceSub, Int.reduceMul, Int.reduceNeg, Int.reducePow, Int.reduceLT, Int.reduceLE, Int.reduceEq, Int.reduceAbs, Int.reduceToNat, reduceCtorEq]
    refine take_r (k := k + c + 389999) (by omega) (h3.less (by omega)) (by omega) (by omega) fun t m4 t0 t1 h4 => ?_
    obtain ⟨t, rfl⟩ := Int.eq_ofNat_of_zero_le t0
    simp only [↓kW, kP, String.reduceEq, Nat.reduceAdd, Nat.reduceSub, Nat.reduceMul, Nat.reducePow, Nat.reduceLT, Nat.reduceLeDiff, Nat.reduceEqDiff, Int.reduceAdd, Int.reduceSub, Int.reduceMul, Int.reduceNeg, Int.reducePow, Int.reduceLT, Int.reduceLE, Int.reduceEq, Int.reduceAbs, Int.reduceToNat, reduceCtorEq]
    rw [show (1 : Int) + (t : Int) = ((1 + t : Nat) : Int) by omega]
    refine expr_r (1 + t) n (k + c) m4 _ _ (by omega) (by omega) (h4.less (by have := costE_mono (show 1 + t ≤ 5 by omega); omega)) fun e m5 r5 he5 h5 => ?_
    have he := exprB_mono (show 1 + t ≤ 5 by omega) he5
    simp only [↓kW, kP, String.reduceEq, Nat.reduceAdd, Nat.reduceSub, Nat.reduceMul, Nat.reducePow, Nat.reduceLT, Nat.reduceLeDiff, Nat.reduceEqDiff, Int.reduceAdd, Int.reduceSub, Int.reduceMul, Int.reduceNeg, Int.reducePow, Int.reduceLT, Int.reduceLE, Int.reduceEq, Int.reduceAbs, Int.reduceToNat, reduceCtorEq]
    exact q _ _ _ (by rw [st_put]; simp [hz1, hz2, he]) (S0 _ _ (by simp) (by simp only [List.mem_cons, List.not_mem_nil, or_false]; rintro x (rfl | rfl) <;> first | exact sn _ | exact se _ (by assumption) | exact se _ he)) (h5.less (by omega))
  · -- say
    simp only [↓kW, kP, String.reduceEq, Nat.reduceAdd, Nat.reduceSub, Nat.reduceMul, Nat.reducePow, Nat.reduceLT, Nat.reduceLeDiff, Nat.reduceEqDiff, Int.reduceAdd, Int.reduceSub, Int.reduceMul, Int.reduceNeg, Int.reducePow, Int.reduceLT, Int.reduceLE, Int.reduceEq, Int.reduceAbs, Int.reduceToNat, reduceCtorEq]
    refine take_r (k := k + c + 389999) (by omega) (h3.less (by omega)) (by omega) (by omega) fun t m4 t0 t1 h4 => ?_
    obtain ⟨t, rfl⟩ := Int.eq_ofNat_of_zero_le t0
    simp only [↓kW, kP, String.reduceEq, Nat.reduceAdd, Nat.reduceSub, Nat.reduceMul, Nat.reducePow, Nat.reduceLT, Nat.reduceLeDiff, Nat.reduceEqDiff, Int.reduceAdd, Int.reduceSub, Int.reduceMul, Int.reduceNeg, Int.reducePow, Int.reduceLT, Int.reduceLE, Int.reduceEq, Int.reduceAbs, Int.reduceToNat, reduceCtorEq]
    rw [show (1 : Int) + (t : Int) = ((1 + t : Nat) : Int) by omega]
    refine expr_r (1 + t) n (k + c) m4 _ _ (by omega) (by omega) (h4.less (by have := costE_mono (show 1 + t ≤ 5 by omega); omega)) fun e m5 r5 he5 h5 => ?_
    have he := exprB_mono (show 1 + t ≤ 5 by omega) he5
    simp only [↓kW, kP, String.reduceEq, Nat.reduceAdd, Nat.reduceSub, Nat.reduceMul, Nat.reducePow, Nat.reduceLT, Nat.reduceLeDiff, Nat.reduceEqDiff, Int.reduceAdd, Int.reduceSub, Int.reduceMul, Int.reduceNeg, Int.reducePow, Int.reduceLT, Int.reduceLE, Int.reduceEq, Int.reduceAbs, Int.reduceToNat, reduceCtorEq]
    exact q _ _ _ (by rw [st_say]; simp [hz1, hz2, he]) (S0 _ _ (by simp) (by simp only [List.mem_cons, List.not_mem_nil, or_false]; rintro x (rfl) <;> first | exact sn _ | exact se _ (by assumption) | exact se _ he)) (h5.less (by omega))
  · -- do
    simp only [↓kW, kP, String.reduceEq, Nat.reduceAdd, Nat.reduceSub, Nat.reduceMul, Nat.reducePow, Nat.reduceLT, Nat.reduceLeDiff, Nat.reduceEqDiff, Int.reduceAdd, Int.reduceSub, Int.reduceMul, Int.reduceNeg, Int.reducePow, Int.reduceLT, Int.reduceLE, Int.reduceEq, Int.reduceAbs, Int.reduceToNat, reduceCtorEq]
    refine take_r (k := k + c + 389999) (by omega) (h3.less (by omega)) (by omega) (by omega) fun t m4 t0 t1 h4 => ?_
    obtain ⟨t, rfl⟩ := Int.eq_ofNat_of_zero_le t0
    simp only [↓kW, kP, String.reduceEq, Nat.reduceAdd, Nat.reduceSub, Nat.reduceMul, Nat.reducePow, Nat.reduceLT, Nat.reduceLeDiff, Nat.reduceEqDiff, Int.reduceAdd, Int.reduceSub, Int.reduceMul, Int.reduceNeg, Int.reducePow, Int.reduceLT, Int.reduceLE, Int.reduceEq, Int.reduceAbs, Int.reduceToNat, reduceCtorEq]
    rw [show (1 : Int) + (t : Int) = ((1 + t : Nat) : Int) by omega]
    refine args_r (expr_r (1 + t)) (by omega) (k := k + c) (by omega) (h4.less (by have := costE_mono (show 1 + t ≤ 4 by omega); omega)) fun as m5 r5 ha h5 => ?_
    have he : exprB 5 (.tuple [.str "call", .str z1, .none, as]) = true := exprB_mono (show 1 + t + 1 ≤ 5 by omega) (exprB_call _ hz1 rfl ha)
    simp only [↓kW, kP, String.reduceEq, Nat.reduceAdd, Nat.reduceSub, Nat.reduceMul, Nat.reducePow, Nat.reduceLT, Nat.reduceLeDiff, Nat.reduceEqDiff, Int.reduceAdd, Int.reduceSub, Int.reduceMul, Int.reduceNeg, Int.reducePow, Int.reduceLT, Int.reduceLE, Int.reduceEq, Int.reduceAbs, Int.reduceToNat, reduceCtorEq]
    exact q _ _ _ (by rw [st_do]; simp [he, isCallB]) (S0 _ _ (by simp) (by simp only [List.mem_cons, List.not_mem_nil, or_false]; rintro x rfl; exact se _ he)) (h5.less (by omega))
  · -- drop
    simp only [↓kW, kP, String.reduceEq, Nat.reduceAdd, Nat.reduceSub, Nat.reduceMul, Nat.reducePow, Nat.reduceLT, Nat.reduceLeDiff, Nat.reduceEqDiff, Int.reduceAdd, Int.reduceSub, Int.reduceMul, Int.reduceNeg, Int.reducePow, Int.reduceLT, Int.reduceLE, Int.reduceEq, Int.reduceAbs, Int.reduceToNat, reduceCtorEq]
    exact q _ _ _ (by rw [st_drop]; simp [hz1]) (S0 _ _ (by simp) (by simp only [List.mem_cons, List.not_mem_nil, or_false]; rintro x rfl; exact sn _)) (h3.less (by omega))
  · -- give
    simp only [↓kW, kP, String.reduceEq, Nat.reduceAdd, Nat.reduceSub, Nat.reduceMul, Nat.reducePow, Nat.reduceLT, Nat.reduceLeDiff, Nat.reduceEqDiff, Int.reduceAdd, Int.reduceSub, Int.reduceMul, Int.reduceNeg, Int.reducePow, Int.reduceLT, Int.reduceLE, Int.reduceEq, Int.reduceAbs, Int.reduceToNat, reduceCtorEq]
    refine take_r (k := k + c + 389999) (by omega) (h3.less (by omega)) (by omega) (by omega) fun t m4 t0 t1 h4 => ?_
    obtain ⟨t, rfl⟩ := Int.eq_ofNat_of_zero_le t0
    simp only [↓kW, kP, String.reduceEq, Nat.reduceAdd, Nat.reduceSub, Nat.reduceMul, Nat.reducePow, Nat.reduceLT, Nat.reduceLeDiff, Nat.reduceEqDiff, Int.reduceAdd, Int.reduceSub, Int.reduceMul, Int.reduceNeg, Int.reducePow, Int.reduceLT, Int.reduceLE, Int.reduceEq, Int.reduceAbs, Int.reduceToNat, reduceCtorEq]
    rw [show (1 : Int) + (t : Int) = ((1 + t : Nat) : Int) by omega]
    refine expr_r (1 + t) n (k + c) m4 _ _ (by omega) (by omega) (h4.less (by have := costE_mono (show 1 + t ≤ 5 by omega); omega)) fun e m5 r5 he5 h5 => ?_
    have he := exprB_mono (show 1 + t ≤ 5 by omega) he5
    simp only [↓kW, kP, String.reduceEq, Nat.reduceAdd, Nat.reduceSub, Nat.reduceMul, Nat.reducePow, Nat.reduceLT, Nat.reduceLeDiff, Nat.reduceEqDiff, Int.reduceAdd, Int.reduceSub, Int.reduceMul, Int.reduceNeg, Int.reducePow, Int.reduceLT, Int.reduceLE, Int.reduceEq, Int.reduceAbs, Int.reduceToNat, reduceCtorEq]
    exact q _ _ _ (by rw [st_give]; simp [hz1, hz2, he]) (S0 _ _ (by simp) (by simp only [List.mem_cons, List.not_mem_nil, or_false]; rintro x (rfl) <;> first | exact sn _ | exact se _ (by assumption) | exact se _ he)) (h5.less (by omega))
  · -- fail
    simp only [↓kW, kP, String.reduceEq, Nat.reduceAdd, Nat.reduceSub, Nat.reduceMul, Nat.reducePow, Nat.reduceLT, Nat.reduceLeDiff, Nat.reduceEqDiff, Int.reduceAdd, Int.reduceSub, Int.reduceMul, Int.reduceNeg, Int.reducePow, Int.reduceLT, Int.reduceLE, Int.reduceEq, Int.reduceAbs, Int.reduceToNat, reduceCtorEq]
    refine num_r (k := k + c) (by omega) (h3.less (by omega)) fun e m4 he h4 => ?_
    simp only [↓kW, kP, String.reduceEq, Nat.reduceAdd, Nat.reduceSub, Nat.reduceMul, Nat.reducePow, Nat.reduceLT, Nat.reduceLeDiff, Nat.reduceEqDiff, Int.reduceAdd, Int.reduceSub, Int.reduceMul, Int.reduceNeg, Int.reducePow, Int.reduceLT, Int.reduceLE, Int.reduceEq, Int.reduceAbs, Int.reduceToNat, reduceCtorEq]
    exact q _ _ _ (by rw [st_fail]; simp [he]) (S0 _ _ (by simp) (by simp only [List.mem_cons, List.not_mem_nil, or_false]; rintro x (rfl) <;> first | exact sn _ | exact se _ (by assumption) | exact numB_sm he)) (h4.less (by omega))
  · -- poke
    simp only [↓kW, kP, String.reduceEq, Nat.reduceAdd, Nat.reduceSub, Nat.reduceMul, Nat.reducePow, Nat.reduceLT, Nat.reduceLeDiff, Nat.reduceEqDiff, Int.reduceAdd, Int.reduceSub, Int.reduceMul, Int.reduceNeg, Int.reducePow, Int.reduceLT, Int.reduceLE, Int.reduceEq, Int.reduceAbs, Int.reduceToNat, reduceCtorEq]
    refine take_r (k := k + c + 389999) (by omega) (h3.less (by omega)) (by omega) (by omega) fun t m4 t0 t1 h4 => ?_
    obtain ⟨t, rfl⟩ := Int.eq_ofNat_of_zero_le t0
    simp only [↓kW, kP, String.reduceEq, Nat.reduceAdd, Nat.reduceSub, Nat.reduceMul, Nat.reducePow, Nat.reduceLT, Nat.reduceLeDiff, Nat.reduceEqDiff, Int.reduceAdd, Int.reduceSub, Int.reduceMul, Int.reduceNeg, Int.reducePow, Int.reduceLT, Int.reduceLE, Int.reduceEq, Int.reduceAbs, Int.reduceToNat, reduceCtorEq]
    rw [show (1 : Int) + (t : Int) = ((1 + t : Nat) : Int) by omega]
    refine expr_r (1 + t) n (k + c) m4 _ _ (by omega) (by omega) (h4.less (by have := costE_mono (show 1 + t ≤ 5 by omega); omega)) fun e m5 r5 he5 h5 => ?_
    have he := exprB_mono (show 1 + t ≤ 5 by omega) he5
    simp only [↓kW, kP, String.reduceEq, Nat.reduceAdd, Nat.reduceSub, Nat.reduceMul, Nat.reducePow, Nat.reduceLT, Nat.reduceLeDiff, Nat.reduceEqDiff, Int.reduceAdd, Int.reduceSub, Int.reduceMul, Int.reduceNeg, Int.reducePow, Int.reduceLT, Int.reduceLE, Int.reduceEq, Int.reduceAbs, Int.reduceToNat, reduceCtorEq]
    exact q _ _ _ (by rw [st_poke]; simp [hz1, hz2, he]) (S0 _ _ (by simp) (by simp only [List.mem_cons, List.not_mem_nil, or_false]; rintro x (rfl | rfl) <;> first | exact sn _ | exact se _ (by assumption) | exact se _ he)) (h5.less (by omega))
  · -- free
    simp only [↓kW, kP, String.reduceEq, Nat.reduceAdd, Nat.reduceSub, Nat.reduceMul, Nat.reducePow, Nat.reduceLT, Nat.reduceLeDiff, Nat.reduceEqDiff, Int.reduceAdd, Int.reduceSub, Int.reduceMul, Int.reduceNeg, Int.reducePow, Int.reduceLT, Int.reduceLE, Int.reduceEq, Int.reduceAbs, Int.reduceToNat, reduceCtorEq]
    exact q _ _ _ (by rw [st_free]; simp [hz1]) (S0 _ _ (by simp) (by simp only [List.mem_cons, List.not_mem_nil, or_false]; rintro x rfl; exact sn _)) (h3.less (by omega))
  obtain ⟨dp, rfl⟩ : ∃ d, deep = d + 1 := ⟨deep - 1, by omega⟩
  have hb := ihb dp rfl
  have hcs : costS (dp + 1) = 400000 + 2 * (1 + 4 * costS dp) := rfl
  have sb : ∀ x, Sm (23 + 2 * dp) x → Sm (21 + 2 * (dp + 1)) x := fun x h => by rwa [show 21 + 2 * (dp + 1) = 23 + 2 * dp by omega]
  have dp1 : ((dp + 1 : Nat) : Int) - 1 = (dp : Int) := by omega
  rcases hw' with rfl | rfl | rfl | rfl | rfl
  · -- if
    simp only [↓kW, kP, String.reduceEq, Nat.reduceAdd, Nat.reduceSub, Nat.reduceMul, Nat.reducePow, Nat.reduceLT, Nat.reduceLeDiff, Nat.reduceEqDiff, Int.reduceAdd, Int.reduceSub, Int.reduceMul, Int.reduceNeg, Int.reducePow, Int.reduceLT, Int.reduceLE, Int.reduceEq, Int.reduceAbs, Int.reduceToNat, reduceCtorEq, dp1]
    refine take_r (k := k + c + 389999) (by omega) (h3.less (by omega)) (by omega) (by omega) fun t m4 t0 t1 h4 => ?_
    obtain ⟨t, rfl⟩ := Int.eq_ofNat_of_zero_le t0
    simp only [↓kW, kP, String.reduceEq, Nat.reduceAdd, Nat.reduceSub, Nat.reduceMul, Nat.reducePow, Nat.reduceLT, Nat.reduceLeDiff, Nat.reduceEqDiff, Int.reduceAdd, Int.reduceSub, Int.reduceMul, Int.reduceNeg, Int.reducePow, Int.reduceLT, Int.reduceLE, Int.reduceEq, Int.reduceAbs, Int.reduceToNat, reduceCtorEq]
    rw [show (1 : Int) + (t : Int) = ((1 + t : Nat) : Int) by omega]
    refine expr_r (1 + t) n (k + c + 200000) m4 _ _ (by omega) (by omega) (h4.less (by have := costE_mono (show 1 + t ≤ 5 by omega); omega)) fun e m5 r5 he5 h5 => ?_
    have he := exprB_mono (show 1 + t ≤ 5 by omega) he5
    simp only [↓kW, kP, String.reduceEq, Nat.reduceAdd, Nat.reduceSub, Nat.reduceMul, Nat.reducePow, Nat.reduceLT, Nat.reduceLeDiff, Nat.reduceEqDiff, Int.reduceAdd, Int.reduceSub, Int.reduceMul, Int.reduceNeg, Int.reducePow, Int.reduceLT, Int.reduceLE, Int.reduceEq, Int.reduceAbs, Int.reduceToNat, reduceCtorEq]
    refine we_lcI (fun j E => ∃ m' r' a, E = [B.o m', B.v (.int ((dp : Int) + 1)), B.o (.lst [.int r']), a, B.v (.str "if"), B.v (.str z1), B.v (.str z2), B.v e, B.u, B.u] ∧ Hd (k + j * (1 + 4 * costS dp)) m') (fun x => blockB (dp + 1) x = true ∧ Sm (21 + 2 * (dp + 1)) x) ?_
    simp only [↓kW, kP, String.reduceEq, Nat.reduceAdd, Nat.reduceSub, Nat.reduceMul, Nat.reducePow, Nat.reduceLT, Nat.reduceLeDiff, Nat.reduceEqDiff, Int.reduceAdd, Int.reduceSub, Int.reduceMul, Int.reduceNeg, Int.reducePow, Int.reduceLT, Int.reduceLE, Int.reduceEq, Int.reduceAbs, Int.reduceToNat, reduceCtorEq, show itR 0 2 = some (rngD 0 2) from rfl]
    refine ⟨⟨m5, r5, _, rfl, h5.less (by rw [len_rng']; omega)⟩, ?_, ?_⟩
    · rintro d hd j E ⟨m6, r6, a, rfl, h6⟩
      rw [Nat.succ_mul] at h6
      simp only [↓kW, kP, String.reduceEq, Nat.reduceAdd, Nat.reduceSub, Nat.reduceMul, Nat.reducePow, Nat.reduceLT, Nat.reduceLeDiff, Nat.reduceEqDiff, Int.reduceAdd, Int.reduceSub, Int.reduceMul, Int.reduceNeg, Int.reducePow, Int.reduceLT, Int.reduceLE, Int.reduceEq, Int.reduceAbs, Int.reduceToNat, reduceCtorEq, dp1]
      refine hb n (k + j * (1 + 4 * costS dp)) m6 _ _ (by omega) (h6.less (by omega)) fun b m7 r7 hbb sbb h7 => ?_
      simp only [↓kW, kP, String.reduceEq, Nat.reduceAdd, Nat.reduceSub, Nat.reduceMul, Nat.reducePow, Nat.reduceLT, Nat.reduceLeDiff, Nat.reduceEqDiff, Int.reduceAdd, Int.reduceSub, Int.reduceMul, Int.reduceNeg, Int.reducePow, Int.reduceLT, Int.reduceLE, Int.reduceEq, Int.reduceAbs, Int.reduceToNat, reduceCtorEq]
      exact ⟨⟨hbb, sb _ sbb⟩, m7, r7, a, rfl, h7⟩
    · rintro xs E hl hx ⟨m6, r6, a, rfl, h6⟩
      rw [len_rng'] at hl
      obtain ⟨x, y, rfl⟩ : ∃ x y, xs = [x, y] := by
        match xs, hl with
        | [x, y], _ => exact ⟨x, y, rfl⟩
      have hx1 := hx x (by simp)
      have hx2 := hx y (by simp)
      simp only [↓kW, kP, String.reduceEq, Nat.reduceAdd, Nat.reduceSub, Nat.reduceMul, Nat.reducePow, Nat.reduceLT, Nat.reduceLeDiff, Nat.reduceEqDiff, Int.reduceAdd, Int.reduceSub, Int.reduceMul, Int.reduceNeg, Int.reducePow, Int.reduceLT, Int.reduceLE, Int.reduceEq, Int.reduceAbs, Int.reduceToNat, reduceCtorEq]
      exact q _ _ _ (by rw [st_if]; simp [he, hx1.1, hx2.1]) (S0 _ _ (by simp) (by simp only [List.mem_cons, List.not_mem_nil, or_false]; rintro z (rfl | rfl | rfl) <;> first | exact se _ he | exact hx1.2 | exact hx2.2)) (h6.less (by omega))
  · -- while
    simp only [↓kW, kP, String.reduceEq, Nat.reduceAdd, Nat.reduceSub, Nat.reduceMul, Nat.reducePow, Nat.reduceLT, Nat.reduceLeDiff, Nat.reduceEqDiff, Int.reduceAdd, Int.reduceSub, Int.reduceMul, Int.reduceNeg, Int.reducePow, Int.reduceLT, Int.reduceLE, Int.reduceEq, Int.reduceAbs, Int.reduceToNat, reduceCtorEq, dp1]
    refine take_r (k := k + c + 389999) (by omega) (h3.less (by omega)) (by omega) (by omega) fun t m4 t0 t1 h4 => ?_
    obtain ⟨t, rfl⟩ := Int.eq_ofNat_of_zero_le t0
    simp only [↓kW, kP, String.reduceEq, Nat.reduceAdd, Nat.reduceSub, Nat.reduceMul, Nat.reducePow, Nat.reduceLT, Nat.reduceLeDiff, Nat.reduceEqDiff, Int.reduceAdd, Int.reduceSub, Int.reduceMul, Int.reduceNeg, Int.reducePow, Int.reduceLT, Int.reduceLE, Int.reduceEq, Int.reduceAbs, Int.reduceToNat, reduceCtorEq]
    rw [show (1 : Int) + (t : Int) = ((1 + t : Nat) : Int) by omega]
    refine expr_r (1 + t) n (k + c + 200000) m4 _ _ (by omega) (by omega) (h4.less (by have := costE_mono (show 1 + t ≤ 5 by omega); omega)) fun e m5 r5 he5 h5 => ?_
    have he := exprB_mono (show 1 + t ≤ 5 by omega) he5
    simp only [↓kW, kP, String.reduceEq, Nat.reduceAdd, Nat.reduceSub, Nat.reduceMul, Nat.reducePow, Nat.reduceLT, Nat.reduceLeDiff, Nat.reduceEqDiff, Int.reduceAdd, Int.reduceSub, Int.reduceMul, Int.reduceNeg, Int.reducePow, Int.reduceLT, Int.reduceLE, Int.reduceEq, Int.reduceAbs, Int.reduceToNat, reduceCtorEq]
    refine we_lcI (fun j E => ∃ m' r' a, E = [B.o m', B.v (.int ((dp : Int) + 1)), B.o (.lst [.int r']), a, B.v (.str "while"), B.v (.str z1), B.v (.str z2), B.v e, B.u, B.u] ∧ Hd (k + j * (1 + 4 * costS dp)) m') (fun x => blockB (dp + 1) x = true ∧ Sm (21 + 2 * (dp + 1)) x) ?_
    simp only [↓kW, kP, String.reduceEq, Nat.reduceAdd, Nat.reduceSub, Nat.reduceMul, Nat.reducePow, Nat.reduceLT, Nat.reduceLeDiff, Nat.reduceEqDiff, Int.reduceAdd, Int.reduceSub, Int.reduceMul, Int.reduceNeg, Int.reducePow, Int.reduceLT, Int.reduceLE, Int.reduceEq, Int.reduceAbs, Int.reduceToNat, reduceCtorEq, show itR 0 1 = some (rngD 0 1) from rfl]
    refine ⟨⟨m5, r5, _, rfl, h5.less (by rw [len_rng']; omega)⟩, ?_, ?_⟩
    · rintro d hd j E ⟨m6, r6, a, rfl, h6⟩
      rw [Nat.succ_mul] at h6
      simp only [↓kW, kP, String.reduceEq, Nat.reduceAdd, Nat.reduceSub, Nat.reduceMul, Nat.reducePow, Nat.reduceLT, Nat.reduceLeDiff, Nat.reduceEqDiff, Int.reduceAdd, Int.reduceSub, Int.reduceMul, Int.reduceNeg, Int.reducePow, Int.reduceLT, Int.reduceLE, Int.reduceEq, Int.reduceAbs, Int.reduceToNat, reduceCtorEq, dp1]
      refine hb n (k + j * (1 + 4 * costS dp)) m6 _ _ (by omega) (h6.less (by omega)) fun b m7 r7 hbb sbb h7 => ?_
      simp only [↓kW, kP, String.reduceEq, Nat.reduceAdd, Nat.reduceSub, Nat.reduceMul, Nat.reducePow, Nat.reduceLT, Nat.reduceLeDiff, Nat.reduceEqDiff, Int.reduceAdd, Int.reduceSub, Int.reduceMul, Int.reduceNeg, Int.reducePow, Int.reduceLT, Int.reduceLE, Int.reduceEq, Int.reduceAbs, Int.reduceToNat, reduceCtorEq]
      exact ⟨⟨hbb, sb _ sbb⟩, m7, r7, a, rfl, h7⟩
    · rintro xs E hl hx ⟨m6, r6, a, rfl, h6⟩
      rw [len_rng'] at hl
      obtain ⟨x, rfl⟩ : ∃ x, xs = [x] := by
        match xs, hl with
        | [x], _ => exact ⟨x, rfl⟩
      have hx1 := hx x (by simp)
      simp only [↓kW, kP, String.reduceEq, Nat.reduceAdd, Nat.reduceSub, Nat.reduceMul, Nat.reducePow, Nat.reduceLT, Nat.reduceLeDiff, Nat.reduceEqDiff, Int.reduceAdd, Int.reduceSub, Int.reduceMul, Int.reduceNeg, Int.reducePow, Int.reduceLT, Int.reduceLE, Int.reduceEq, Int.reduceAbs, Int.reduceToNat, reduceCtorEq]
      exact q _ _ _ (by rw [st_while]; simp [he, hx1.1]) (S0 _ _ (by simp) (by simp only [List.mem_cons, List.not_mem_nil, or_false]; rintro y (rfl | rfl) <;> first | exact se _ he | exact hx1.2)) (h6.less (by omega))
  · -- look
    simp only [↓kW, kP, String.reduceEq, Nat.reduceAdd, Nat.reduceSub, Nat.reduceMul, Nat.reducePow, Nat.reduceLT, Nat.reduceLeDiff, Nat.reduceEqDiff, Int.reduceAdd, Int.reduceSub, Int.reduceMul, Int.reduceNeg, Int.reducePow, Int.reduceLT, Int.reduceLE, Int.reduceEq, Int.reduceAbs, Int.reduceToNat, reduceCtorEq, dp1]
    refine hb n k m3 _ _ (by omega) (h3.less (by omega)) fun b m7 r7 hbb sbb h7 => ?_
    simp only [↓kW, kP, String.reduceEq, Nat.reduceAdd, Nat.reduceSub, Nat.reduceMul, Nat.reducePow, Nat.reduceLT, Nat.reduceLeDiff, Nat.reduceEqDiff, Int.reduceAdd, Int.reduceSub, Int.reduceMul, Int.reduceNeg, Int.reducePow, Int.reduceLT, Int.reduceLE, Int.reduceEq, Int.reduceAbs, Int.reduceToNat, reduceCtorEq, cut3_2, cut3_3]
    exact q _ _ _ (by rw [st_look]; simp [hz1, hz2, hbb]) (S0 _ _ (by simp) (by simp only [List.mem_cons, List.not_mem_nil, or_false]; rintro y (rfl | rfl | rfl) <;> first | exact sn _ | exact sb _ sbb)) h7
  · -- alter
    simp only [↓kW, kP, String.reduceEq, Nat.reduceAdd, Nat.reduceSub, Nat.reduceMul, Nat.reducePow, Nat.reduceLT, Nat.reduceLeDiff, Nat.reduceEqDiff, Int.reduceAdd, Int.reduceSub, Int.reduceMul, Int.reduceNeg, Int.reducePow, Int.reduceLT, Int.reduceLE, Int.reduceEq, Int.reduceAbs, Int.reduceToNat, reduceCtorEq, dp1]
    refine hb n k m3 _ _ (by omega) (h3.less (by omega)) fun b m7 r7 hbb sbb h7 => ?_
    simp only [↓kW, kP, String.reduceEq, Nat.reduceAdd, Nat.reduceSub, Nat.reduceMul, Nat.reducePow, Nat.reduceLT, Nat.reduceLeDiff, Nat.reduceEqDiff, Int.reduceAdd, Int.reduceSub, Int.reduceMul, Int.reduceNeg, Int.reducePow, Int.reduceLT, Int.reduceLE, Int.reduceEq, Int.reduceAbs, Int.reduceToNat, reduceCtorEq, cut3_2, cut3_3]
    exact q _ _ _ (by rw [st_alter]; simp [hz1, hz2, hbb]) (S0 _ _ (by simp) (by simp only [List.mem_cons, List.not_mem_nil, or_false]; rintro y (rfl | rfl | rfl) <;> first | exact sn _ | exact sb _ sbb)) h7
  · -- fence
    simp only [↓kW, kP, String.reduceEq, Nat.reduceAdd, Nat.reduceSub, Nat.reduceMul, Nat.reducePow, Nat.reduceLT, Nat.reduceLeDiff, Nat.reduceEqDiff, Int.reduceAdd, Int.reduceSub, Int.reduceMul, Int.reduceNeg, Int.reducePow, Int.reduceLT, Int.reduceLE, Int.reduceEq, Int.reduceAbs, Int.reduceToNat, reduceCtorEq, dp1]
    refine hb n k m3 _ _ (by omega) (h3.less (by omega)) fun b m7 r7 hbb sbb h7 => ?_
    simp only [↓kW, kP, String.reduceEq, Nat.reduceAdd, Nat.reduceSub, Nat.reduceMul, Nat.reducePow, Nat.reduceLT, Nat.reduceLeDiff, Nat.reduceEqDiff, Int.reduceAdd, Int.reduceSub, Int.reduceMul, Int.reduceNeg, Int.reducePow, Int.reduceLT, Int.reduceLE, Int.reduceEq, Int.reduceAbs, Int.reduceToNat, reduceCtorEq, cut3_2, cut3_3]
    exact q _ _ _ (by rw [st_fence]; simp [hz1, hbb]) (S0 _ _ (by simp) (by simp only [List.mem_cons, List.not_mem_nil, or_false]; rintro y (rfl | rfl) <;> first | exact sn _ | exact sb _ sbb)) h7
theorem stmt_r : ∀ deep, StmtR deep
  | 0 => stmt_of fun d h => by omega
  | deep + 1 => stmt_of fun d h => by
    obtain rfl : deep = d := by omega
    exact block_of (stmt_r deep)
theorem block_r (deep : Nat) : BlockR deep := block_of (stmt_r deep)

theorem law_true (ns : List Int) (hns : ns.length ≤ 63) : ∃ E', (fs 100).law [B.v (.list (ns.map .int))] = some (.bool true, E') := by
  suffices h : wc (fs 100).law [B.v (.list (ns.map .int))] fun d _ => d = .bool true by
    obtain ⟨⟨d, E'⟩, h1, h2⟩ := h
    exact ⟨E', by rw [h1]; exact congrArg some (Prod.ext h2 rfl)⟩
  show wc (bodyFn [] 8 (b_law (fs 99))) _ _
  have c4 : 1 + 4 * costS 4 = 7489604681 := rfl
  have PR : ∀ (d : PyData) (Q : PyData → Env' → Prop), wc (fs 99).is_program [B.v d] Q = Q (.bool (programB d)) [] := fun d Q => wc_eq (program_ok (N := 99) (by decide) d) Q
  have LB : ∀ (d : PyData) (Q : PyData → Env' → Prop), wc (fs 99).law_is_block [B.v d, B.v (.int 5)] Q = Q (.bool (blockB 5 d)) [] := fun d Q => wc_eq (lblock_ok 5 99 (by decide) d) Q
  unfold b_law
  simp only [↓kW, kP, String.reduceEq, Nat.reduceAdd, Nat.reduceSub, Nat.reduceMul, Nat.reducePow, Nat.reduceLT, Nat.reduceLeDiff, Nat.reduceEqDiff, Int.reduceAdd, Int.reduceSub, Int.reduceMul, Int.reduceNeg, Int.reducePow, Int.reduceLT, Int.reduceLE, Int.reduceEq, Int.reduceAbs, Int.reduceToNat, reduceCtorEq, List.length_map]
  refine ws_for (fun _ E => ∃ a b c d e f g h, E = [B.v (.list (ns.map .int)), a, b, c, d, e, f, g, h]) ?_
  simp only [↓kW, kP, String.reduceEq, Nat.reduceAdd, Nat.reduceSub, Nat.reduceMul, Nat.reducePow, Nat.reduceLT, Nat.reduceLeDiff, Nat.reduceEqDiff, Int.reduceAdd, Int.reduceSub, Int.reduceMul, Int.reduceNeg, Int.reducePow, Int.reduceLT, Int.reduceLE, Int.reduceEq, Int.reduceAbs, Int.reduceToNat, reduceCtorEq, List.length_map]
  obtain ⟨r, hr, er⟩ := cells2 ns.length
  simp only [↓kW, kP, String.reduceEq, Nat.reduceAdd, Nat.reduceSub, Nat.reduceMul, Nat.reducePow, Nat.reduceLT, Nat.reduceLeDiff, Nat.reduceEqDiff, Int.reduceAdd, Int.reduceSub, Int.reduceMul, Int.reduceNeg, Int.reducePow, Int.reduceLT, Int.reduceLE, Int.reduceEq, Int.reduceAbs, Int.reduceToNat, reduceCtorEq, er]
  refine ⟨⟨_, _, _, _, _, _, _, _, rfl⟩, ?_, ?_⟩
  · rintro d hd _ E ⟨a1, a2, a3, a4, a5, a6, a7, a8, rfl⟩
    obtain ⟨i, hi, rfl⟩ := mem_rng hd
    refine ⟨_, rfl, ?_⟩
    simp only [↓kW, kP, String.reduceEq, Nat.reduceAdd, Nat.reduceSub, Nat.reduceMul, Nat.reducePow, Nat.reduceLT, Nat.reduceLeDiff, Nat.reduceEqDiff, Int.reduceAdd, Int.reduceSub, Int.reduceMul, Int.reduceNeg, Int.reducePow, Int.reduceLT, Int.reduceLE, Int.reduceEq, Int.reduceAbs, Int.reduceToNat, reduceCtorEq]
    refine hand_r (ns := ns) (i := i) (by omega) (by omega) fun m hm => ?_
    simp only [↓kW, kP, String.reduceEq, Nat.reduceAdd, Nat.reduceSub, Nat.reduceMul, Nat.reducePow, Nat.reduceLT, Nat.reduceLeDiff, Nat.reduceEqDiff, Int.reduceAdd, Int.reduceSub, Int.reduceMul, Int.reduceNeg, Int.reducePow, Int.reduceLT, Int.reduceLE, Int.reduceEq, Int.reduceAbs, Int.reduceToNat, reduceCtorEq]
    refine ws_for (fun j E => ∃ m a b c d e f, E = [B.v (.list (ns.map .int)), B.v (.int i), B.o m, a, b, c, d, e, f] ∧ Hd (j * 7489605000) m) ?_
    simp only [↓kW, kP, String.reduceEq, Nat.reduceAdd, Nat.reduceSub, Nat.reduceMul, Nat.reducePow, Nat.reduceLT, Nat.reduceLeDiff, Nat.reduceEqDiff, Int.reduceAdd, Int.reduceSub, Int.reduceMul, Int.reduceNeg, Int.reducePow, Int.reduceLT, Int.reduceLE, Int.reduceEq, Int.reduceAbs, Int.reduceToNat, reduceCtorEq, show itR 0 12 = some (rngD 0 12) from rfl]
    refine ⟨⟨_, _, _, _, _, _, _, rfl, hm.less (by rw [len_rng']; decide)⟩, ?_, ?_⟩
    · rintro d hd j E ⟨m, a3, a4, a5, a6, a7, a8, rfl, hm⟩
      obtain ⟨q, hq, rfl⟩ := mem_rng hd
      refine ⟨_, rfl, ?_⟩
      simp only [↓kW, kP, String.reduceEq, Nat.reduceAdd, Nat.reduceSub, Nat.reduceMul, Nat.reducePow, Nat.reduceLT, Nat.reduceLeDiff, Nat.reduceEqDiff, Int.reduceAdd, Int.reduceSub, Int.reduceMul, Int.reduceNeg, Int.reducePow, Int.reduceLT, Int.reduceLE, Int.reduceEq, Int.reduceAbs, Int.reduceToNat, reduceCtorEq]
      refine take_r (k := j * 7489605000 + 7489604999) (by omega) (hm.less (by omega)) (by omega) (by omega) fun t m1 t0 t1 h1 => ?_
      simp only [↓kW, kP, String.reduceEq, Nat.reduceAdd, Nat.reduceSub, Nat.reduceMul, Nat.reducePow, Nat.reduceLT, Nat.reduceLeDiff, Nat.reduceEqDiff, Int.reduceAdd, Int.reduceSub, Int.reduceMul, Int.reduceNeg, Int.reducePow, Int.reduceLT, Int.reduceLE, Int.reduceEq, Int.reduceAbs, Int.reduceToNat, reduceCtorEq]
      refine of_r (k := j * 7489605000 + 7489604998) (by omega) (h1.less (by omega)) (by simp) (by simp) fun dp m2 hdp h2 => ?_
      obtain ⟨dp, rfl, hdp4⟩ : ∃ n : Nat, dp = .int n ∧ n ≤ 4 := by
        simp only [List.mem_cons, List.not_mem_nil, or_false] at hdp
        rcases hdp with rfl | rfl | rfl | rfl
        · exact ⟨4, rfl, by decide⟩
        · exact ⟨4, rfl, by decide⟩
        · exact ⟨3, rfl, by decide⟩
        · exact ⟨0, rfl, by decide⟩
      simp only [↓kW, kP, String.reduceEq, Nat.reduceAdd, Nat.reduceSub, Nat.reduceMul, Nat.reducePow, Nat.reduceLT, Nat.reduceLeDiff, Nat.reduceEqDiff, Int.reduceAdd, Int.reduceSub, Int.reduceMul, Int.reduceNeg, Int.reducePow, Int.reduceLT, Int.reduceLE, Int.reduceEq, Int.reduceAbs, Int.reduceToNat, reduceCtorEq]
      refine block_r dp 99 (j * 7489605000 + 300) m2 _ _ (by omega) (h2.less (by have := costS_mono hdp4; omega)) fun b m3 r3 hb sb h3 => ?_
      simp only [↓kW, kP, String.reduceEq, Nat.reduceAdd, Nat.reduceSub, Nat.reduceMul, Nat.reducePow, Nat.reduceLT, Nat.reduceLeDiff, Nat.reduceEqDiff, Int.reduceAdd, Int.reduceSub, Int.reduceMul, Int.reduceNeg, Int.reducePow, Int.reduceLT, Int.reduceLE, Int.reduceEq, Int.reduceAbs, Int.reduceToNat, reduceCtorEq]
      refine ws_for (fun n E => ∃ m b f g, E = [B.v (.list (ns.map .int)), B.v (.int i), B.o m, B.v (.int q), B.o (.lst [.int r3]), B.v b, f, g, a8] ∧ Hd (j * 7489605000 + 280 + n) m ∧ n ≤ 5 ∧ Sm (41 - 2 * n) b) ?_
      simp only [↓kW, kP, String.reduceEq, Nat.reduceAdd, Nat.reduceSub, Nat.reduceMul, Nat.reducePow, Nat.reduceLT, Nat.reduceLeDiff, Nat.reduceEqDiff, Int.reduceAdd, Int.reduceSub, Int.reduceMul, Int.reduceNeg, Int.reducePow, Int.reduceLT, Int.reduceLE, Int.reduceEq, Int.reduceAbs, Int.reduceToNat, reduceCtorEq]
      refine of_r (k := j * 7489605000 + 299) (by omega) (h3.less (by omega)) (by simp) (by simp) fun tm m4 htm h4 => ?_
      obtain ⟨tm, rfl, htm5⟩ : ∃ n : Nat, tm = .int n ∧ n ≤ 5 := by
        simp only [List.mem_cons, List.not_mem_nil, or_false] at htm
        rcases htm with rfl | rfl | rfl | rfl | rfl
        · exact ⟨0, rfl, by decide⟩
        · exact ⟨0, rfl, by decide⟩
        · exact ⟨1, rfl, by decide⟩
        · exact ⟨4, rfl, by decide⟩
        · exact ⟨5, rfl, by decide⟩
      simp only [↓kW, kP, String.reduceEq, Nat.reduceAdd, Nat.reduceSub, Nat.reduceMul, Nat.reducePow, Nat.reduceLT, Nat.reduceLeDiff, Nat.reduceEqDiff, Int.reduceAdd, Int.reduceSub, Int.reduceMul, Int.reduceNeg, Int.reducePow, Int.reduceLT, Int.reduceLE, Int.reduceEq, Int.reduceAbs, Int.reduceToNat, reduceCtorEq, itR_0 (n := (tm : Int)) (by omega) (by omega)]
      refine ⟨⟨_, _, _, _, rfl, h4.less (by rw [len_rng']; omega), by rw [len_rng']; have := htm5; omega, sb.mono (by rw [len_rng']; have := hdp4; have := htm5; omega)⟩, ?_, ?_⟩
      · rintro d hd n E ⟨m5, b5, f5, g5, rfl, h5, hn5, s5⟩
        refine ⟨_, rfl, ?_⟩
        simp only [↓kW, kP, String.reduceEq, Nat.reduceAdd, Nat.reduceSub, Nat.reduceMul, Nat.reducePow, Nat.reduceLT, Nat.reduceLeDiff, Nat.reduceEqDiff, Int.reduceAdd, Int.reduceSub, Int.reduceMul, Int.reduceNeg, Int.reducePow, Int.reduceLT, Int.reduceLE, Int.reduceEq, Int.reduceAbs, Int.reduceToNat, reduceCtorEq]
        refine of_r (k := j * 7489605000 + 280 + n) (by omega) (h5.less (by omega)) (by simp) (by simp) fun x m6 hx h6 => ?_
        simp only [↓kW, kP, String.reduceEq, Nat.reduceAdd, Nat.reduceSub, Nat.reduceMul, Nat.reducePow, Nat.reduceLT, Nat.reduceLeDiff, Nat.reduceEqDiff, Int.reduceAdd, Int.reduceSub, Int.reduceMul, Int.reduceNeg, Int.reducePow, Int.reduceLT, Int.reduceLE, Int.reduceEq, Int.reduceAbs, Int.reduceToNat, reduceCtorEq]
        refine ⟨_, _, _, _, rfl, h6, by omega, ?_⟩
        obtain ⟨z, hz⟩ : ∃ z, 41 - 2 * n = z + 5 ∧ 41 - 2 * (n + 1) = z + 3 := ⟨41 - 2 * n - 5, by omega, by omega⟩
        rw [hz.1]
        rw [hz.2] at s5
        refine sm_cons (by simp) ?_ (fun _ h => (List.not_mem_nil h).elim)
        simp only [List.mem_cons, List.not_mem_nil, or_false] at hx
        have n0 : Sm (z + 3) (.tuple [.str "num", .int 0]) := sm_cons (by simp) (sm_str _ _) fun y hy => by rw [List.mem_singleton.mp hy]; exact sm_int _ _
        rcases hx with rfl | rfl | rfl
        · exact sm3 (by simp) fun y hy => by
            simp only [List.mem_cons, List.not_mem_nil, or_false] at hy
            rcases hy with rfl | rfl <;> first | exact n0 | exact s5
        · exact sm3 (by simp) fun y hy => by
            simp only [List.mem_cons, List.not_mem_nil, or_false] at hy
            rcases hy with rfl | rfl | rfl <;> first | exact sm_str _ _ | exact s5
        · exact sm3 (by simp) fun y hy => by
            simp only [List.mem_cons, List.not_mem_nil, or_false] at hy
            rcases hy with rfl | rfl <;> first | exact sm_str _ _ | exact s5
      · rintro E ⟨m5, b5, f5, g5, rfl, h5, s5⟩
        simp only [↓kW, kP, String.reduceEq, Nat.reduceAdd, Nat.reduceSub, Nat.reduceMul, Nat.reducePow, Nat.reduceLT, Nat.reduceLeDiff, Nat.reduceEqDiff, Int.reduceAdd, Int.reduceSub, Int.reduceMul, Int.reduceNeg, Int.reducePow, Int.reduceLT, Int.reduceLE, Int.reduceEq, Int.reduceAbs, Int.reduceToNat, reduceCtorEq]
        refine take_r (k := j * 7489605000 + 279) (by omega) (h5.less (by omega)) (by omega) (by omega) fun s m6 s0 s1 h6 => ?_
        simp only [↓kW, kP, String.reduceEq, Nat.reduceAdd, Nat.reduceSub, Nat.reduceMul, Nat.reducePow, Nat.reduceLT, Nat.reduceLeDiff, Nat.reduceEqDiff, Int.reduceAdd, Int.reduceSub, Int.reduceMul, Int.reduceNeg, Int.reducePow, Int.reduceLT, Int.reduceLE, Int.reduceEq, Int.reduceAbs, Int.reduceToNat, reduceCtorEq]
        refine wif_by (fun _ => ?_) (fun _ => ?_)
        · simp only [↓kW, kP, String.reduceEq, Nat.reduceAdd, Nat.reduceSub, Nat.reduceMul, Nat.reducePow, Nat.reduceLT, Nat.reduceLeDiff, Nat.reduceEqDiff, Int.reduceAdd, Int.reduceSub, Int.reduceMul, Int.reduceNeg, Int.reducePow, Int.reduceLT, Int.reduceLE, Int.reduceEq, Int.reduceAbs, Int.reduceToNat, reduceCtorEq]
          refine spoilt_r 41 99 (j * 7489605000) b5 m6 _ (s5.mono (by omega)) (by omega) (h6.less (by omega)) fun y m7 h7 => ?_
          simp only [↓kW, kP, String.reduceEq, Nat.reduceAdd, Nat.reduceSub, Nat.reduceMul, Nat.reducePow, Nat.reduceLT, Nat.reduceLeDiff, Nat.reduceEqDiff, Int.reduceAdd, Int.reduceSub, Int.reduceMul, Int.reduceNeg, Int.reducePow, Int.reduceLT, Int.reduceLE, Int.reduceEq, Int.reduceAbs, Int.reduceToNat, reduceCtorEq, PR, pr_one, LB]
          exact ⟨_, _, _, _, _, _, _, rfl, h7⟩
        · simp only [↓kW, kP, String.reduceEq, Nat.reduceAdd, Nat.reduceSub, Nat.reduceMul, Nat.reducePow, Nat.reduceLT, Nat.reduceLeDiff, Nat.reduceEqDiff, Int.reduceAdd, Int.reduceSub, Int.reduceMul, Int.reduceNeg, Int.reducePow, Int.reduceLT, Int.reduceLE, Int.reduceEq, Int.reduceAbs, Int.reduceToNat, reduceCtorEq, PR, pr_one, LB]
          exact ⟨_, _, _, _, _, _, _, rfl, h6.less (by omega)⟩
    · rintro E ⟨m, a3, a4, a5, a6, a7, a8, rfl, hm⟩
      exact ⟨_, _, _, _, _, _, _, _, rfl⟩
  · rintro E ⟨a1, a2, a3, a4, a5, a6, a7, a8, rfl⟩
    simp only [↓kW, kP, String.reduceEq, Nat.reduceAdd, Nat.reduceSub, Nat.reduceMul, Nat.reducePow, Nat.reduceLT, Nat.reduceLeDiff, Nat.reduceEqDiff, Int.reduceAdd, Int.reduceSub, Int.reduceMul, Int.reduceNeg, Int.reducePow, Int.reduceLT, Int.reduceLE, Int.reduceEq, Int.reduceAbs, Int.reduceToNat, reduceCtorEq]

end DL
open PySem PySem.W PySem.Calls PyProof.Rows
set_option maxHeartbeats 16000000 in
theorem PySem.Challenge.cw_ownedtongue_k03_statements_of_anything_holds : PySem.Challenge.rw_ownedtongue_k03_statements_of_anything.Holds := by
  w_on; o_law
  refine HandSHeadRun.head_any (r := OpenLaw.row PySem.Challenge.rw_ownedtongue_k03_statements_of_anything) (q := view (OpenLaw.row PySem.Challenge.rw_ownedtongue_k03_statements_of_anything).prog [57]) (H := DL.hk) (ob := DL.ob) (M := 4000) (loose := DL.loose) (d := HandSHeadRun.topDef (OpenLaw.row PySem.Challenge.rw_ownedtongue_k03_statements_of_anything).prog 57) (kwd := []) DL.ob_eq
    (by kernel_rfl) (fun s => by kernel_rfl) DL.run (by kernel_rfl) (by kernel_rfl) (by kernel_rfl) (by rfl) (by first | assumption | decide +kernel) (by decide +kernel) ⟨rfl, rfl, rfl, rfl, rfl, by decide +kernel⟩ ?hw ?hc
  case hw => w_witness2
  case hc =>
    refine L2.walk_ofE (l := PySem.Challenge.rw_ownedtongue_k03_statements_of_anything) (n := 63) (k := 100) (x := ("_law_script" : Str)) (CX := L2.CX0) rfl (by decide) (by kernel_rfl) ⟨rfl, by decide, by decide⟩ ?F (fun _ _ _ _ z => z)
    intro w mg fa h Y G hmg0
    obtain ⟨K, KX, c⟩ := Y
    have hmg : mg ("law" : PySem.Str) = some (.ref fa) := by
      have e : (HandSHeadRun.topDef (OpenLaw.row PySem.Challenge.rw_ownedtongue_k03_statements_of_anything).prog 57).name = ("law" : PySem.Str) := by kernel_rfl
      rw [← e]
      exact hmg0
    obtain ⟨fds, T⟩ := DL.tp_of KX G c
    have e := hmg.symm.trans T.m_law
    cases e
    have b := L2.FunD.bindsA (ps := [("_law_script" : Str)]) T.f_law fun _ _ _ _ _ _ us hl => match us, hl with | [_], _ => rfl
    refine ⟨K, fds 38, DL.spF K 1 [] (DL.fs 100).law, KX, fun s v => b s [v] rfl, fun H a ns hl _ hS => ?_, fun base _ _ => (DL.all_ok T 100).law⟩
    obtain ⟨E', he⟩ := DL.law_true ns hl
    exact DL.sp_script (DL.noLst_ok c) (Nat.le_trans hl (by decide)) hS he

