import PyProof.Rows.All
import HandS.ForMost
import HandS.Wide
import HandS.TupAny
import HandS.TupMul
import HandS.Deep
import HandS.Style
import HandS.IsInst
import HandS.Zip
import HandS.Codes
import PySem.Challenge.RW_withinone_k52_whole_middles_of_what_can
set_option Elab.async false
set_option linter.all false
set_option maxRecDepth 100000
/-! The data level: plain values D with a store of lists, readings at that level, and what they have to do with HandS' readings. -/
namespace DL
open PySem PySem.Spec PyProof.Rows L2

/-- plain data; ref n: the n-th list of the store; fz: a list that is only read -/
inductive D where
  | non | bl (b : Bool) | int (i : Int) | str (s : Str) | tup (ds : List D) | ref (n : Nat) | fz (ds : List D) | ty (n : String)

abbrev Store := List (List D)
abbrev Env := List (Option D)

/-- a list that stays as it is -/
def SqF (K : PySem.W.Frag) (H : Hp) (a : Addr) (xs : List V) : Prop :=
  (∃ o, H a = some (.frz o (.lst xs))) ∨
    ∃ (o : Obj) (its : Array Value) (n : Nat), K.lookup a = some o ∧ o.cls = .type "list" ∧ o.dict = none ∧ o.data = .seq its n ∧ its.size ≤ sizeLine ∧ Vals xs its.toList
theorem SqF.sql {K : PySem.W.Frag} {H : Hp} {a : Addr} {xs : List V} (h : SqF K H a xs) : SqL K H a xs := by
  rcases h with h | h
  · exact .inl (.inr h)
  · exact .inr h

mutual
def RelD (K : PySem.W.Frag) (H : Hp) (φ : List Addr) : D → V → Prop
  | .non, v => v = .non
  | .bl b, v => v = .bl b
  | .int i, v => v = .int i
  | .str s, v => v = .str s
  | .tup ds, v => ∃ a vs, v = .ref a ∧ SqT K H a vs ∧ RelDs K H φ ds vs
  | .ref n, v => ∃ a, v = .ref a ∧ φ[n]? = some a
  | .ty n, v => v = .ty n
  | .fz ds, v => ∃ a vs, v = .ref a ∧ SqF K H a vs ∧ RelDs K H φ ds vs
def RelDs (K : PySem.W.Frag) (H : Hp) (φ : List Addr) : List D → List V → Prop
  | [], vs => vs = []
  | d :: ds, vs => ∃ v r, vs = v :: r ∧ RelD K H φ d v ∧ RelDs K H φ ds r
end

/-- what later heaps keep -/
structure Ext (K : PySem.W.Frag) (φ : List Addr) (H : Hp) (φ' : List Addr) (H' : Hp) : Prop where
  pre : φ <+: φ'
  tup : ∀ a xs, SqT K H a xs → SqT K H' a xs
  frz : ∀ a xs, SqF K H a xs → SqF K H' a xs

structure RelSt (K : PySem.W.Frag) (H : Hp) (φ : List Addr) (st : Store) : Prop where
  len : φ.length = st.length
  nd : φ.Nodup
  «at» : ∀ (n : Nat) (a : Addr) (ds : List D), φ[n]? = some a → st[n]? = some ds → ∃ vs, H a = some (.lst vs) ∧ RelDs K H φ ds vs

/-- the slots and the names' values -/
structure RelE (K : PySem.W.Frag) (H : Hp) (φ : List Addr) (σ : L2.St) (env : Env) : Prop where
  len : env.length = σ.length
  «at» : ∀ (i : Nat) (d : D), env[i]? = some (some d) → ∃ v, σ[i]? = some (some v) ∧ RelD K H φ d v

section
variable {K : PySem.W.Frag} {H H' H2 : Hp} {φ φ' φ2 : List Addr}
theorem Ext.refl : Ext K φ H φ H := ⟨List.prefix_refl _, fun _ _ h => h, fun _ _ h => h⟩
theorem Ext.trans (a : Ext K φ H φ' H') (b : Ext K φ' H' φ2 H2) : Ext K φ H φ2 H2 :=
  ⟨a.pre.trans b.pre, fun p xs h => b.tup p xs (a.tup p xs h), fun p xs h => b.frz p xs (a.frz p xs h)⟩
theorem get_pre {α : Type} {l m : List α} (h : l <+: m) {n : Nat} {a : α} (e : l[n]? = some a) : m[n]? = some a := by
  obtain ⟨t, rfl⟩ := h
  obtain ⟨hn, _⟩ := List.getElem?_eq_some_iff.mp e
  rw [List.getElem?_append_left hn]
  exact e

mutual
theorem RelD.ext (x : Ext K φ H φ' H') : ∀ (d : D) (v : V), RelD K H φ d v → RelD K H' φ' d v
  | .non, v, h => by unfold RelD at h ⊢; exact h
  | .bl b, v, h => by unfold RelD at h ⊢; exact h
  | .int b, v, h => by unfold RelD at h ⊢; exact h
  | .str b, v, h => by unfold RelD at h ⊢; exact h
  | .ty b, v, h => by unfold RelD at h ⊢; exact h
  | .tup ds, v, h => by
    unfold RelD at h ⊢
    obtain ⟨a, vs, e, hs, hr⟩ := h
    exact ⟨a, vs, e, x.tup _ _ hs, RelDs.ext x ds vs hr⟩
  | .ref n, v, h => by
    unfold RelD at h ⊢
    obtain ⟨a, e, hs⟩ := h
    exact ⟨a, e, get_pre x.pre hs⟩
  | .fz ds, v, h => by
    unfold RelD at h ⊢
    obtain ⟨a, vs, e, hs, hr⟩ := h
    exact ⟨a, vs, e, x.frz _ _ hs, RelDs.ext x ds vs hr⟩
theorem RelDs.ext (x : Ext K φ H φ' H') : ∀ (ds : List D) (vs : List V), RelDs K H φ ds vs → RelDs K H' φ' ds vs
  | [], vs, h => by unfold RelDs at h ⊢; exact h
  | d :: ds, vs, h => by
    unfold RelDs at h ⊢
    obtain ⟨v, r, e, hd, hr⟩ := h
    exact ⟨v, r, e, RelD.ext x d v hd, RelDs.ext x ds r hr⟩
end

theorem RelE.ext {σ : L2.St} {env : Env} (x : Ext K φ H φ' H') (r : RelE K H φ σ env) : RelE K H' φ' σ env :=
  ⟨r.len, fun i d e => let ⟨v, h1, h2⟩ := r.at i d e; ⟨v, h1, h2.ext x⟩⟩

theorem relDs_nil {vs : List V} : RelDs K H φ [] vs ↔ vs = [] := by unfold RelDs; rfl
theorem relDs_cons {d : D} {ds : List D} {vs : List V} : RelDs K H φ (d :: ds) vs ↔ ∃ v r, vs = v :: r ∧ RelD K H φ d v ∧ RelDs K H φ ds r := by rw [RelDs]
theorem RelDs.length : ∀ {ds : List D} {vs : List V}, RelDs K H φ ds vs → vs.length = ds.length
  | [], vs, h => by rw [relDs_nil.mp h]; rfl
  | d :: ds, vs, h => by
    obtain ⟨v, r, rfl, _, hr⟩ := relDs_cons.mp h
    rw [List.length_cons, List.length_cons, RelDs.length hr]
theorem RelDs.get : ∀ {ds : List D} {vs : List V} {i : Nat} {d : D}, RelDs K H φ ds vs → ds[i]? = some d → ∃ v, vs[i]? = some v ∧ RelD K H φ d v
  | [], vs, i, d, h, e => by simp at e
  | d :: ds, vs, 0, d', h, e => by
    obtain ⟨v, r, rfl, hd, _⟩ := relDs_cons.mp h
    simp at e
    subst e
    exact ⟨v, rfl, hd⟩
  | d :: ds, vs, i + 1, d', h, e => by
    obtain ⟨v, r, rfl, _, hr⟩ := relDs_cons.mp h
    obtain ⟨w, h1, h2⟩ := RelDs.get hr (by simpa using e)
    exact ⟨w, by simpa using h1, h2⟩
theorem RelDs.get_back : ∀ {ds : List D} {vs : List V} {i : Nat} {v : V}, RelDs K H φ ds vs → vs[i]? = some v → ∃ d, ds[i]? = some d ∧ RelD K H φ d v := by
  intro ds vs i v h e
  have hl := h.length
  obtain ⟨hi, _⟩ := List.getElem?_eq_some_iff.mp e
  have hi' : i < ds.length := by omega
  obtain ⟨w, h1, h2⟩ := h.get (List.getElem?_eq_getElem hi')
  rw [e] at h1; cases h1
  exact ⟨_, List.getElem?_eq_getElem hi', h2⟩
theorem RelDs.append : ∀ {ds es : List D} {vs ws : List V}, RelDs K H φ ds vs → RelDs K H φ es ws → RelDs K H φ (ds ++ es) (vs ++ ws)
  | [], es, vs, ws, h, g => by rw [relDs_nil.mp h]; exact g
  | d :: ds, es, vs, ws, h, g => by
    obtain ⟨v, r, rfl, hd, hr⟩ := relDs_cons.mp h
    exact relDs_cons.mpr ⟨v, r ++ ws, rfl, hd, hr.append g⟩
theorem RelDs.one {d : D} {v : V} (h : RelD K H φ d v) : RelDs K H φ [d] [v] := relDs_cons.mpr ⟨v, [], rfl, h, relDs_nil.mpr rfl⟩
theorem RelDs.nil : RelDs K H φ [] [] := relDs_nil.mpr rfl
theorem RelDs.cons {d : D} {v : V} {ds : List D} {vs : List V} (h : RelD K H φ d v) (g : RelDs K H φ ds vs) : RelDs K H φ (d :: ds) (v :: vs) := relDs_cons.mpr ⟨v, vs, rfl, h, g⟩
theorem RelDs.take : ∀ {ds : List D} {vs : List V} (n : Nat), RelDs K H φ ds vs → RelDs K H φ (ds.take n) (vs.take n)
  | ds, vs, 0, h => by simpa using RelDs.nil
  | [], vs, n + 1, h => by rw [relDs_nil.mp h]; simpa using RelDs.nil
  | d :: ds, vs, n + 1, h => by
    obtain ⟨v, r, rfl, hd, hr⟩ := relDs_cons.mp h
    exact .cons hd (hr.take n)
theorem RelDs.drop : ∀ {ds : List D} {vs : List V} (n : Nat), RelDs K H φ ds vs → RelDs K H φ (ds.drop n) (vs.drop n)
  | ds, vs, 0, h => h
  | [], vs, n + 1, h => by rw [relDs_nil.mp h]; simpa using RelDs.nil
  | d :: ds, vs, n + 1, h => by
    obtain ⟨v, r, rfl, hd, hr⟩ := relDs_cons.mp h
    exact hr.drop n
theorem RelDs.reverse {ds : List D} {vs : List V} (h : RelDs K H φ ds vs) : RelDs K H φ ds.reverse vs.reverse := by
  induction ds generalizing vs with
  | nil => rw [relDs_nil.mp h]; exact .nil
  | cons d ds ih =>
    obtain ⟨v, r, rfl, hd, hr⟩ := relDs_cons.mp h
    rw [List.reverse_cons, List.reverse_cons]
    exact (ih hr).append (.one hd)
theorem RelDs.set : ∀ {ds : List D} {vs : List V} (n : Nat) {d : D} {v : V}, RelDs K H φ ds vs → RelD K H φ d v → RelDs K H φ (ds.set n d) (vs.set n v)
  | [], vs, n, d, v, h, g => by rw [relDs_nil.mp h]; simpa using RelDs.nil
  | e :: ds, vs, 0, d, v, h, g => by
    obtain ⟨w, r, rfl, hd, hr⟩ := relDs_cons.mp h
    exact .cons g hr
  | e :: ds, vs, n + 1, d, v, h, g => by
    obtain ⟨w, r, rfl, hd, hr⟩ := relDs_cons.mp h
    exact .cons hd (hr.set n g)
theorem RelDs.flat {ds : List D} {vs : List V} (h : RelDs K H φ ds vs) : ∀ k : Nat, RelDs K H φ (List.replicate k ds).flatten (List.replicate k vs).flatten
  | 0 => by simpa using RelDs.nil
  | k + 1 => by
    rw [List.replicate_succ, List.replicate_succ, List.flatten_cons, List.flatten_cons]
    exact h.append (h.flat k)
theorem RelDs.ints : ∀ {ns : List Int}, RelDs K H φ (ns.map D.int) (ns.map V.int)
  | [] => .nil
  | n :: ns => .cons (by unfold RelD; rfl) RelDs.ints

/-- a new object tracked -/
theorem Ext.new {p : Addr} {o : HO} (hp : H p = none) (ps : List Addr) : Ext K φ H (φ ++ ps) (upd H p o) := by
  refine ⟨List.prefix_append _ _, fun a xs h => ?_, fun a xs h => ?_⟩
  · rcases h with (h | ⟨ob, h⟩) | h
    · exact .inl (.inl (by rw [upd_ne (ne_of_none h hp)]; exact h))
    · exact .inl (.inr ⟨ob, by rw [upd_ne (ne_of_none h hp)]; exact h⟩)
    · exact .inr h
  · rcases h with ⟨ob, h⟩ | h
    · exact .inl ⟨ob, by rw [upd_ne (ne_of_none h hp)]; exact h⟩
    · exact .inr h
theorem Ext.new0 {p : Addr} {o : HO} (hp : H p = none) : Ext K φ H φ (upd H p o) := by
  have := Ext.new (K := K) (φ := φ) (o := o) hp []
  rwa [List.append_nil] at this
/-- a list changed -/
theorem Ext.chg {p : Addr} {vs : List V} {ws : List V} (hp : H p = some (.lst vs)) : Ext K φ H φ (upd H p (.lst ws)) := by
  have ne : ∀ {a : Addr} {o : HO}, H a = some o → o ≠ .lst vs → a ≠ p := fun h d e => by
    subst e; rw [hp] at h; exact d (Option.some.inj h).symm
  refine ⟨List.prefix_refl _, fun a xs h => ?_, fun a xs h => ?_⟩
  · rcases h with (h | ⟨ob, h⟩) | h
    · exact .inl (.inl (by rw [upd_ne (ne h (by intro z; cases z))]; exact h))
    · exact .inl (.inr ⟨ob, by rw [upd_ne (ne h (by intro z; cases z))]; exact h⟩)
    · exact .inr h
  · rcases h with ⟨ob, h⟩ | h
    · exact .inl ⟨ob, by rw [upd_ne (ne h (by intro z; cases z))]; exact h⟩
    · exact .inr h

/-- a new tuple or other thing that is no list of the store -/
theorem RelSt.new0 {st : Store} {p : Addr} {o : HO} (r : RelSt K H φ st) (hp : H p = none) : RelSt K (upd H p o) φ st :=
  ⟨r.len, r.nd, fun n a ds e1 e2 => let ⟨vs, h1, h2⟩ := r.at n a ds e1 e2; ⟨vs, by rw [upd_ne (ne_of_none h1 hp)]; exact h1, h2.ext (Ext.new0 hp)⟩⟩
/-- a new list -/
theorem RelSt.push {st : Store} {p : Addr} {ds : List D} {vs : List V} (r : RelSt K H φ st) (hp : H p = none) (h : RelDs K H φ ds vs) : RelSt K (upd H p (.lst vs)) (φ ++ [p]) (st ++ [ds]) := by
  have x : Ext K φ H (φ ++ [p]) (upd H p (.lst vs)) := Ext.new hp [p]
  have hin : ∀ a ∈ φ, ∃ vs, H a = some (.lst vs) := fun a ha => by
    obtain ⟨n, hn⟩ := List.getElem?_of_mem ha
    obtain ⟨h1, _⟩ := List.getElem?_eq_some_iff.mp hn
    obtain ⟨ws, h2, _⟩ := r.at n a _ hn (List.getElem?_eq_getElem (by rw [← r.len]; exact h1))
    exact ⟨ws, h2⟩
  refine ⟨by simp [r.len], ?_, fun n a es e1 e2 => ?_⟩
  · refine List.nodup_append.mpr ⟨r.nd, by simp, fun a ha b hb => ?_⟩
    obtain ⟨ws, h2⟩ := hin a ha
    have : b = p := by simpa using hb
    subst this
    exact ne_of_none h2 hp
  · by_cases hn : n < φ.length
    · rw [List.getElem?_append_left hn] at e1
      rw [List.getElem?_append_left (by rw [← r.len]; exact hn)] at e2
      obtain ⟨ws, h1, h2⟩ := r.at n a es e1 e2
      exact ⟨ws, by rw [upd_ne (ne_of_none h1 hp)]; exact h1, h2.ext x⟩
    · obtain ⟨h1, _⟩ := List.getElem?_eq_some_iff.mp e1
      have hn' : n = φ.length := by simp at h1; omega
      subst hn'
      rw [List.getElem?_append_right (Nat.le_refl _)] at e1
      rw [r.len, List.getElem?_append_right (Nat.le_refl _)] at e2
      simp at e1 e2
      subst e1; subst e2
      exact ⟨vs, upd_same, h.ext x⟩
/-- a list of the store changed -/
theorem RelSt.chg {st : Store} {n : Nat} {p : Addr} {ds : List D} {vs ws : List V} (r : RelSt K H φ st) (hn : φ[n]? = some p) (hp : H p = some (.lst vs)) (h : RelDs K H φ ds ws) : RelSt K (upd H p (.lst ws)) φ (st.set n ds) := by
  have x : Ext K φ H φ (upd H p (.lst ws)) := Ext.chg hp
  refine ⟨by simp [r.len], r.nd, fun m a es e1 e2 => ?_⟩
  by_cases hm : m = n
  · subst hm
    rw [hn] at e1; cases e1
    obtain ⟨h1, _⟩ := List.getElem?_eq_some_iff.mp hn
    rw [List.getElem?_set_self (by rw [← r.len]; exact h1)] at e2
    cases e2
    exact ⟨ws, upd_same, h.ext x⟩
  · rw [List.getElem?_set_ne (Ne.symm hm)] at e2
    obtain ⟨us, h1, h2⟩ := r.at m a es e1 e2
    have : a ≠ p := fun e => by
      subst e
      obtain ⟨i1, q1⟩ := List.getElem?_eq_some_iff.mp hn
      obtain ⟨i2, q2⟩ := List.getElem?_eq_some_iff.mp e1
      exact hm ((List.getElem_inj r.nd).mp (q2.trans q1.symm))
    exact ⟨us, by rw [upd_ne this]; exact h1, h2.ext x⟩
theorem RelSt.get {st : Store} {n : Nat} {a : Addr} (r : RelSt K H φ st) (hn : φ[n]? = some a) : ∃ ds vs, st[n]? = some ds ∧ H a = some (.lst vs) ∧ RelDs K H φ ds vs := by
  obtain ⟨h1, _⟩ := List.getElem?_eq_some_iff.mp hn
  have h2 : n < st.length := by rw [← r.len]; exact h1
  obtain ⟨vs, h3, h4⟩ := r.at n a _ hn (List.getElem?_eq_getElem h2)
  exact ⟨_, vs, List.getElem?_eq_getElem h2, h3, h4⟩
end

/-! ### readings at the data level -/
abbrev KD := D → Store → Prop
abbrev DE := Env → Store → KD → Prop
abbrev DT := Env → Store → (Bool → Store → Prop) → Prop
abbrev DA := Env → Store → (List D → Store → Prop) → Prop
structure DEnds where
  nx : Env → Store → Prop
  rt : KD
  bk : Env → Store → Prop := fun _ _ => False
  ct : Env → Store → Prop := fun _ _ => False
abbrev DS := DEnds → Env → Store → Prop
abbrev DG := D → Env → Store → (Env → Store → Prop) → Prop
abbrev DGs := List D → Env → Store → (Env → Store → Prop) → Prop
/-- what a loop walks: its items, what must stay of the store -/
structure Src where
  items : List D
  keep : Store → Prop
abbrev DI := Env → Store → (Src → Store → Prop) → Prop

section
variable (K : PySem.W.Frag)
/-- a value has come -/
def Post (φ : List Addr) (H : Hp) (Q : VK) (d : D) (st : Store) : Prop := ∀ φ' v H', Ext K φ H φ' H' → RelD K H' φ' d v → RelSt K H' φ' st → Q v H'
def rdE (t : DE) : TE := fun σ H Q => ∃ φ env st P, RelE K H φ σ env ∧ RelSt K H φ st ∧ t env st P ∧ ∀ d st', P d st' → Post K φ H Q d st'
def rdT (t : DT) : TT := fun σ H Q => ∃ φ env st P, RelE K H φ σ env ∧ RelSt K H φ st ∧ t env st P ∧ ∀ b st', P b st' → ∀ φ' H', Ext K φ H φ' H' → RelSt K H' φ' st' → Q b H'
def rdA (t : DA) : TA := fun σ H Q => ∃ φ env st P, RelE K H φ σ env ∧ RelSt K H φ st ∧ t env st P ∧ ∀ ds st', P ds st' → ∀ φ' vs H', Ext K φ H φ' H' → RelDs K H' φ' ds vs → RelSt K H' φ' st' → Q vs H'
/-- the ends meet -/
def Meet (φ : List Addr) (H : Hp) (N : Env → Store → Prop) (Q : L2.St → Hp → Prop) : Prop :=
  ∀ env st, N env st → ∀ φ' σ' H', Ext K φ H φ' H' → RelE K H' φ' σ' env → RelSt K H' φ' st → Q σ' H'
structure MeetS (φ : List Addr) (H : Hp) (DD : DEnds) (D : Ends) : Prop where
  nx : Meet K φ H DD.nx D.nx
  rt : ∀ d st, DD.rt d st → Post K φ H D.rt d st
  bk : Meet K φ H DD.bk D.bk
  ct : Meet K φ H DD.ct D.ct
def rdS (t : DS) : TS := fun D σ H => ∃ φ env st DD, RelE K H φ σ env ∧ RelSt K H φ st ∧ t DD env st ∧ MeetS K φ H DD D
def rdG (t : DG) : TG := fun v σ H Q => ∃ φ d env st P, RelD K H φ d v ∧ RelE K H φ σ env ∧ RelSt K H φ st ∧ t d env st P ∧ Meet K φ H P Q
def rdGs (t : DGs) : TGs := fun vs σ H Q => ∃ φ ds env st P, RelDs K H φ ds vs ∧ RelE K H φ σ env ∧ RelSt K H φ st ∧ t ds env st P ∧ Meet K φ H P Q
/-- an iterator walks these items -/
structure Walks (φ : List Addr) (H : Hp) (src : Src) (J : It) : Prop where
  go : ∀ (i : Nat) (x : D) (φ' : List Addr) (H' : Hp) (st : Store), src.items[i]? = some x → Ext K φ H φ' H' → RelSt K H' φ' st → src.keep st →
    J.go i H' ∧ ∀ v H2, J.yld i H' v H2 → Ext K φ' H' φ' H2 ∧ RelSt K H2 φ' st ∧ RelD K H2 φ' x v
  stop : ∀ φ' H' st, Ext K φ H φ' H' → RelSt K H' φ' st → src.keep st → J.stop src.items.length H'
def rdI (t : DI) : TI := fun σ H R => ∃ φ env st P, RelE K H φ σ env ∧ RelSt K H φ st ∧ t env st P ∧ ∀ src st', P src st' → ∀ φ' H' J, Ext K φ H φ' H' → RelSt K H' φ' st' → Walks K φ' H' src J → R J H'
end

section
variable {K : PySem.W.Frag} {H H' : Hp} {φ φ' : List Addr}
theorem Meet.ext {N : Env → Store → Prop} {Q : L2.St → Hp → Prop} (x : Ext K φ H φ' H') (m : Meet K φ H N Q) : Meet K φ' H' N Q :=
  fun env st n φ2 σ2 H2 y re rs => m env st n φ2 σ2 H2 (x.trans y) re rs
theorem Post.ext {Q : VK} {d : D} {st : Store} (x : Ext K φ H φ' H') (m : Post K φ H Q d st) : Post K φ' H' Q d st :=
  fun φ2 v H2 y r rs => m φ2 v H2 (x.trans y) r rs
theorem MeetS.ext {DD : DEnds} {D : Ends} (x : Ext K φ H φ' H') (m : MeetS K φ H DD D) : MeetS K φ' H' DD D :=
  ⟨m.nx.ext x, fun d st h => (m.rt d st h).ext x, m.bk.ext x, m.ct.ext x⟩
end
end DL

/-! The data level: expressions. -/
namespace DL
open PySem PySem.Spec PyProof.Rows L2 C8

section
variable {X : Cx} {a b e : Expr} {t u : TE} {ta tb tc te : DE} {pos : Pos}
theorem pe_mono (h : PE X e t) (i : ∀ σ H Q, u σ H Q → t σ H Q) : PE X e u := ⟨fun pins s σ H Q I q => h.run pins s σ H Q I (i σ H Q q)⟩
theorem pt_mono {t u : TT} (h : PT X e t) (i : ∀ σ H Q, u σ H Q → t σ H Q) : PT X e u := ⟨fun pins s σ H Q I q => h.run pins s σ H Q I (i σ H Q q)⟩
theorem pw_mono {t u : TT} (h : PW X e t) (i : ∀ σ H Q, u σ H Q → t σ H Q) : PW X e u := ⟨fun wh pins s σ H Q I q => h.run wh pins s σ H Q I (i σ H Q q)⟩
theorem pa_mono {es : List Expr} {t u : TA} (h : PA X es t) (i : ∀ σ H Q, u σ H Q → t σ H Q) : PA X es u := ⟨fun p pins s σ H Q I q => h.run p pins s σ H Q I (i σ H Q q)⟩

/-! what may be missing -/
def optK {α : Type} (o : Option α) (k : α → Prop) : Prop := match o with | some a => k a | none => False
theorem ok_ {α : Type} {o : Option α} {k : α → Prop} {a : α} (h : o = some a) (q : k a) : optK o k := by subst h; exact q
theorem optK_elim {α : Type} {o : Option α} {k : α → Prop} (h : optK o k) : ∃ a, o = some a ∧ k a := by
  cases o with
  | none => exact h.elim
  | some a => exact ⟨a, rfl, h⟩
/-! names and constants -/
def dVar (i : Nat) : DE := fun env st P => match env[i]? with | some (some d) => P d st | _ => False
def dC (d : D) : DE := fun _ st P => P d st
theorem d_var {i : Nat} {x : Str} (hN : X.N[i]? = some x) (hv : Vis X.env.scope x) (hd : (x == ("__debug__" : Str)) = false := by decide) (hcd : (x == ("__classdict__" : Str)) = false := by decide) : PE X (.Name x pos) (rdE X.K (dVar i)) := by
  refine pe_mono (pe_var hN hv hd hcd) fun σ H Q h => ?_
  obtain ⟨φ, env, st, P, re, rs, h, hP⟩ := h
  unfold dVar at h
  split at h
  · rename_i d e
    obtain ⟨v, h1, h2⟩ := re.at i d e
    exact ⟨v, h1, hP d st h φ v H .refl h2 rs⟩
  · exact h.elim
theorem d_c {v : V} {d : D} (h : PE X e (tC v)) (r : ∀ H φ, RelD X.K H φ d v) : PE X e (rdE X.K (dC d)) := by
  refine pe_mono h fun σ H Q h => ?_
  obtain ⟨φ, env, st, P, re, rs, h, hP⟩ := h
  exact hP d st h φ v H .refl (r H φ) rs
theorem d_int {i : Int} {j} : PE X (.Constant (.int i) j pos) (rdE X.K (dC (.int i))) := d_c pe_int fun _ _ => by unfold RelD; rfl
theorem d_bl {i : Bool} {j} : PE X (.Constant (.bool i) j pos) (rdE X.K (dC (.bl i))) := d_c pe_bl fun _ _ => by unfold RelD; rfl
theorem d_non {j} : PE X (.Constant .none j pos) (rdE X.K (dC .non)) := d_c pe_non fun _ _ => by unfold RelD; rfl
theorem d_str {i : Str} {j} : PE X (.Constant (.str i) j pos) (rdE X.K (dC (.str i))) := d_c pe_str fun _ _ => by unfold RelD; rfl
/-- a module's constant -/
structure Glo (K : PySem.W.Frag) (mg : Str → Option Value) (x : Str) (d : D) : Prop where
  ex : ∃ (v : V) (u : Value), mg x = some u ∧ RelV v u ∧ ∀ H φ, RelD K H φ d v
theorem d_glob {x : Str} {d : D} (g : Glo X.K X.mg x d) (hg : Gl X x) (hd : (x == ("__debug__" : Str)) = false := by decide) : PE X (.Name x pos) (rdE X.K (dC d)) := by
  obtain ⟨v, u, hm, r, h⟩ := g.ex
  exact d_c (pe_glob hg hm r hd) h
/-- a built-in type as a value -/
theorem d_type {x : Str} {n : String} (hg : Gl X x) (hm : X.mg x = none) (hv : bootBuiltins x = some (.type n)) (hn : x ≠ "__name__" := by decide) (hd : (x == ("__debug__" : Str)) = false := by decide) : PE X (.Name x pos) (rdE X.K (dC (.ty n))) :=
  d_c (pe_bltn (v := .ty n) hg hm hv rfl hn hd) fun _ _ => by unfold RelD; rfl

/-! operators -/
abbrev ROp := D → D → Store → KD → Prop
def dOp (r : ROp) (ta tb : DE) : DE := fun env st P => ta env st fun x s1 => tb env s1 fun y s2 => r x y s2 P
def dUn (r : D → Store → KD → Prop) (ta : DE) : DE := fun env st P => ta env st fun x s1 => r x s1 P
def ImpOp (K : PySem.W.Frag) (rd : ROp) (r : R2) : Prop := ∀ φ H st x y v u P Q, RelSt K H φ st → RelD K H φ x v → RelD K H φ y u → rd x y st P → (∀ d st', P d st' → Post K φ H Q d st') → r v u H Q
def ImpUn (K : PySem.W.Frag) (rd : D → Store → KD → Prop) (r : V → Hp → VK → Prop) : Prop := ∀ φ H st x v P Q, RelSt K H φ st → RelD K H φ x v → rd x st P → (∀ d st', P d st' → Post K φ H Q d st') → r v H Q
theorem op_imp {rd : ROp} {r : R2} (im : ImpOp X.K rd r) : ∀ σ H Q, rdE X.K (dOp rd ta tb) σ H Q → tOp r (rdE X.K ta) (rdE X.K tb) σ H Q := by
  intro σ H Q h
  obtain ⟨φ, env, st, P, re, rs, h, hP⟩ := h
  exact ⟨φ, env, st, _, re, rs, h, fun x s1 h1 φ1 v H1 e1 rx rs1 => ⟨φ1, env, s1, _, re.ext e1, rs1, h1, fun y s2 h2 φ2 u H2 e2 ry rs2 => im φ2 H2 s2 x y v u P Q rs2 (rx.ext e2) ry h2 fun d st' hd => (hP d st' hd).ext (e1.trans e2)⟩⟩
theorem un_imp {rd : D → Store → KD → Prop} {r : V → Hp → VK → Prop} (im : ImpUn X.K rd r) : ∀ σ H Q, rdE X.K (dUn rd ta) σ H Q → tUn r (rdE X.K ta) σ H Q := by
  intro σ H Q h
  obtain ⟨φ, env, st, P, re, rs, h, hP⟩ := h
  exact ⟨φ, env, st, _, re, rs, h, fun x s1 h1 φ1 v H1 e1 rx rs1 => im φ1 H1 s1 x v P Q rs1 rx h1 fun d st' hd => (hP d st' hd).ext e1⟩
theorem d_op {op : Operator} {rd : ROp} {r : R2} (ho : OpR X (binaryOp op) r) (im : ImpOp X.K rd r) (ha : PE X a (rdE X.K ta)) (hb : PE X b (rdE X.K tb)) : PE X (.BinOp a op b pos) (rdE X.K (dOp rd ta tb)) := pe_mono (pe_op ho ha hb) (op_imp im)
theorem d_un {op : UnaryOp} {rd : D → Store → KD → Prop} {r : V → Hp → VK → Prop} (ho : UnR X (unaryOp op) r) (im : ImpUn X.K rd r) (ha : PE X a (rdE X.K ta)) : PE X (.UnaryOp op a pos) (rdE X.K (dUn rd ta)) := pe_mono (pe_un ho ha) (un_imp im)
theorem d_cmpR {op : CmpOp} {rd : ROp} {r : R2} (ho : OpR X (compareOp op) r) (im : ImpOp X.K rd r) (ha : PE X a (rdE X.K ta)) (hb : PE X b (rdE X.K tb)) (hm : behindInMarks op b = false) : PE X (.Compare a [op] [b] pos) (rdE X.K (dOp rd ta tb)) := pe_mono (pe_cmpR ho ha hb hm) (op_imp im)
/-- a bool as a test -/
def dB (t : DE) : DT := fun env st P => t env st fun d s => match d with | .bl b => P b s | _ => False
theorem b_imp {t : DE} {K : PySem.W.Frag} : ∀ σ H (Q : Bool → Hp → Prop), rdT K (dB t) σ H Q → rdE K t σ H fun x H' => ∃ k, x = .bl k ∧ Q k H' := by
  intro σ H Q h
  obtain ⟨φ, env, st, P, re, rs, h, hP⟩ := h
  refine ⟨φ, env, st, _, re, rs, h, fun d s1 h1 φ1 v H1 e1 rx rs1 => ?_⟩
  cases d with
  | bl b =>
    unfold RelD at rx
    exact ⟨b, rx, hP b s1 h1 φ1 H1 e1 rs1⟩
  | _ => exact h1.elim
theorem d_ptCmp {op : CmpOp} {rd : ROp} {r : R2} (ho : OpR X (compareOp op) r) (im : ImpOp X.K rd r) (ha : PE X a (rdE X.K ta)) (hb : PE X b (rdE X.K tb)) (hm : behindInMarks op b = false) : PT X (.Compare a [op] [b] pos) (rdT X.K (dB (dOp rd ta tb))) := by
  refine pt_mono (pt_cmpR ho ha hb hm) fun σ H Q h => ?_
  obtain ⟨φ, env, st, P, re, rs, h, hP⟩ := b_imp σ H Q h
  exact op_imp im σ H _ ⟨φ, env, st, P, re, rs, h, hP⟩
theorem d_ptVal {te : DE} (h : PE X e (rdE X.K te)) (he : ∀ whole, isTrue e X.env whole = (do let v ← whole; standAt e.pos; holding [v] (truthy v)) := by intro _; rfl) : PT X e (rdT X.K (dB te)) :=
  pt_mono (pt_val h he) fun σ H Q q => b_imp σ H Q q
/-- a < b < c -/
def dChain (r r' : ROp) (ta tb tc : DE) : DE := fun env st P => ta env st fun x s1 => tb env s1 fun y s2 => r x y s2 fun z s3 => match z with
  | .bl true => tc env s3 fun w s4 => r' y w s4 P
  | .bl false => P (.bl false) s3
  | _ => False
theorem chain_imp {K : PySem.W.Frag} {rd rd' : ROp} {r r' : R2} {ta tb tc : DE} (im : ImpOp K rd r) (im' : ImpOp K rd' r') : ∀ σ H Q, rdE K (dChain rd rd' ta tb tc) σ H Q → tChain r r' (rdE K ta) (rdE K tb) (rdE K tc) σ H Q := by
  intro σ H Q h
  obtain ⟨φ, env, st, P, re, rs, h, hP⟩ := h
  refine ⟨φ, env, st, _, re, rs, h, fun x s1 h1 φ1 v H1 e1 rx rs1 => ⟨φ1, env, s1, _, re.ext e1, rs1, h1, fun y s2 h2 φ2 u H2 e2 ry rs2 => im φ2 H2 s2 x y v u _ _ rs2 (rx.ext e2) ry h2 fun d st' hd φ3 z H3 e3 rz rs3 => ?_⟩⟩
  cases d with
  | bl k =>
    unfold RelD at rz
    refine ⟨k, rz, ?_⟩
    cases k with
    | true =>
      rw [if_pos rfl]
      exact ⟨φ3, env, st', _, (re.ext (e1.trans e2)).ext e3, rs3, hd, fun w s4 h4 φ4 w' H4 e4 rw' rs4 => im' φ4 H4 s4 y w u w' P Q rs4 (ry.ext (e3.trans e4)) rw' h4 fun d st' hd => (hP d st' hd).ext (((e1.trans e2).trans e3).trans e4)⟩
    | false =>
      rw [if_neg Bool.false_ne_true]
      exact hP _ st' hd φ3 _ H3 ((e1.trans e2).trans e3) (by unfold RelD; rfl) rs3
  | _ => exact hd.elim
theorem d_chain {op op' : CmpOp} {c : Expr} {rd rd' : ROp} {r r' : R2} (ho : OpR X (compareOp op) r) (ho' : OpR X (compareOp op') r') (im : ImpOp X.K rd r) (im' : ImpOp X.K rd' r') (ha : PE X a (rdE X.K ta)) (hb : PE X b (rdE X.K tb)) (hc : PE X c (rdE X.K tc))
    (hm : lastMarks [op, op'] [b, c] = false := by with_unfolding_all rfl) : PE X (.Compare a [op, op'] [b, c] pos) (rdE X.K (dChain rd rd' ta tb tc)) := pe_mono (pe_chain ho ho' ha hb hc hm) (chain_imp im im')
theorem d_ptChain {op op' : CmpOp} {c : Expr} {rd rd' : ROp} {r r' : R2} (ho : OpR X (compareOp op) r) (ho' : OpR X (compareOp op') r') (im : ImpOp X.K rd r) (im' : ImpOp X.K rd' r') (ha : PE X a (rdE X.K ta)) (hb : PE X b (rdE X.K tb)) (hc : PE X c (rdE X.K tc))
    (hm : lastMarks [op, op'] [b, c] = false := by with_unfolding_all rfl) : PT X (.Compare a [op, op'] [b, c] pos) (rdT X.K (dB (dChain rd rd' ta tb tc))) := by
  refine pt_mono (pt_chain ho ho' ha hb hc hm) fun σ H Q h => ?_
  obtain ⟨φ, env, st, P, re, rs, h, hP⟩ := b_imp σ H Q h
  exact chain_imp im im' σ H _ ⟨φ, env, st, P, re, rs, h, hP⟩

/-! and, or, not -/
def dAnd (t u : DT) : DT := fun env st P => t env st fun c s => if c = true then u env s P else P false s
def dOr (t u : DT) : DT := fun env st P => t env st fun c s => if c = true then P true s else u env s P
def dNot (t : DT) : DT := fun env st P => t env st fun c s => P (!c) s
variable {rest : List Expr} {tA tB' : DT}
theorem d_and1 (ha : PT X a (rdT X.K tA)) : PW X (.BoolOp .And [a] pos) (rdT X.K tA) := pw_and1 ha
theorem d_or1 (ha : PT X a (rdT X.K tA)) : PW X (.BoolOp .Or [a] pos) (rdT X.K tA) := pw_or1 ha
theorem d_and (ha : PT X a (rdT X.K tA)) (hb : PW X (.BoolOp .And (b :: rest) pos) (rdT X.K tB')) : PW X (.BoolOp .And (a :: b :: rest) pos) (rdT X.K (dAnd tA tB')) := by
  refine pw_mono (pw_and ha hb) fun σ H Q h => ?_
  obtain ⟨φ, env, st, P, re, rs, h, hP⟩ := h
  refine ⟨φ, env, st, _, re, rs, h, fun c s1 h1 φ1 H1 e1 rs1 => ?_⟩
  cases c with
  | true => rw [if_pos rfl] at h1 ⊢; exact ⟨φ1, env, s1, P, re.ext e1, rs1, h1, fun b st' hb φ2 H2 e2 rs2 => hP b st' hb φ2 H2 (e1.trans e2) rs2⟩
  | false => rw [if_neg Bool.false_ne_true] at h1 ⊢; exact hP false s1 h1 φ1 H1 e1 rs1
theorem d_or (ha : PT X a (rdT X.K tA)) (hb : PW X (.BoolOp .Or (b :: rest) pos) (rdT X.K tB')) : PW X (.BoolOp .Or (a :: b :: rest) pos) (rdT X.K (dOr tA tB')) := by
  refine pw_mono (pw_or ha hb) fun σ H Q h => ?_
  obtain ⟨φ, env, st, P, re, rs, h, hP⟩ := h
  refine ⟨φ, env, st, _, re, rs, h, fun c s1 h1 φ1 H1 e1 rs1 => ?_⟩
  cases c with
  | false => rw [if_neg Bool.false_ne_true] at h1 ⊢; exact ⟨φ1, env, s1, P, re.ext e1, rs1, h1, fun b st' hb φ2 H2 e2 rs2 => hP b st' hb φ2 H2 (e1.trans e2) rs2⟩
  | true => rw [if_pos rfl] at h1 ⊢; exact hP true s1 h1 φ1 H1 e1 rs1
theorem d_not (ha : PT X a (rdT X.K tA)) : PT X (.UnaryOp .Not a pos) (rdT X.K (dNot tA)) := by
  refine pt_mono (pt_not ha) fun σ H Q h => ?_
  obtain ⟨φ, env, st, P, re, rs, h, hP⟩ := h
  exact ⟨φ, env, st, _, re, rs, h, fun c s1 h1 φ1 H1 e1 rs1 => hP (!c) s1 h1 φ1 H1 e1 rs1⟩
/-- as values -/
def dAndV (ta tb : DE) : DE := fun env st P => ta env st fun x s => match x with | .bl true => tb env s P | .bl false => P (.bl false) s | _ => False
def dOrV (ta tb : DE) : DE := fun env st P => ta env st fun x s => match x with | .bl false => tb env s P | .bl true => P (.bl true) s | _ => False
def dNotV (ta : DE) : DE := fun env st P => ta env st fun x s => match x with | .bl c => P (.bl (!c)) s | _ => False
theorem d_one {op} (h : PE X a (rdE X.K ta)) : PE X (.BoolOp op [a] pos) (rdE X.K ta) := pe_one h
theorem d_andV (ha : PE X a (rdE X.K ta)) (hb : PE X (.BoolOp .And (b :: rest) pos) (rdE X.K tb)) : PE X (.BoolOp .And (a :: b :: rest) pos) (rdE X.K (dAndV ta tb)) := by
  refine pe_mono (pe_and ha hb) fun σ H Q h => ?_
  obtain ⟨φ, env, st, P, re, rs, h, hP⟩ := h
  refine ⟨φ, env, st, _, re, rs, h, fun c s1 h1 φ1 v H1 e1 rv rs1 => ?_⟩
  cases c with
  | bl c =>
    unfold RelD at rv
    refine ⟨c, rv, ?_⟩
    cases c with
    | true => rw [if_pos rfl]; exact ⟨φ1, env, s1, P, re.ext e1, rs1, h1, fun d st' hd => (hP d st' hd).ext e1⟩
    | false => rw [if_neg Bool.false_ne_true]; exact hP _ s1 h1 φ1 _ H1 e1 (by unfold RelD; rfl) rs1
  | _ => exact h1.elim
theorem d_orV (ha : PE X a (rdE X.K ta)) (hb : PE X (.BoolOp .Or (b :: rest) pos) (rdE X.K tb)) : PE X (.BoolOp .Or (a :: b :: rest) pos) (rdE X.K (dOrV ta tb)) := by
  refine pe_mono (pe_or ha hb) fun σ H Q h => ?_
  obtain ⟨φ, env, st, P, re, rs, h, hP⟩ := h
  refine ⟨φ, env, st, _, re, rs, h, fun c s1 h1 φ1 v H1 e1 rv rs1 => ?_⟩
  cases c with
  | bl c =>
    unfold RelD at rv
    refine ⟨c, rv, ?_⟩
    cases c with
    | false => rw [if_neg Bool.false_ne_true]; exact ⟨φ1, env, s1, P, re.ext e1, rs1, h1, fun d st' hd => (hP d st' hd).ext e1⟩
    | true => rw [if_pos rfl]; exact hP _ s1 h1 φ1 _ H1 e1 (by unfold RelD; rfl) rs1
  | _ => exact h1.elim
theorem d_notV (ha : PE X a (rdE X.K ta)) : PE X (.UnaryOp .Not a pos) (rdE X.K (dNotV ta)) := by
  refine pe_mono (pe_not ha) fun σ H Q h => ?_
  obtain ⟨φ, env, st, P, re, rs, h, hP⟩ := h
  refine ⟨φ, env, st, _, re, rs, h, fun c s1 h1 φ1 v H1 e1 rv rs1 => ?_⟩
  cases c with
  | bl c =>
    unfold RelD at rv
    exact ⟨c, rv, hP _ s1 h1 φ1 _ H1 e1 (by unfold RelD; rfl) rs1⟩
  | _ => exact h1.elim
def dIfE (t : DT) (ta tb : DE) : DE := fun env st P => t env st fun c s => if c = true then ta env s P else tb env s P
theorem d_ifE {c : Expr} (hc : PT X c (rdT X.K tA)) (ha : PE X a (rdE X.K ta)) (hb : PE X b (rdE X.K tb)) : PE X (.IfExp c a b pos) (rdE X.K (dIfE tA ta tb)) := by
  refine pe_mono (pe_ifExp hc ha hb) fun σ H Q h => ?_
  obtain ⟨φ, env, st, P, re, rs, h, hP⟩ := h
  refine ⟨φ, env, st, _, re, rs, h, fun c s1 h1 φ1 H1 e1 rs1 => ?_⟩
  cases c with
  | true => rw [if_pos rfl] at h1 ⊢; exact ⟨φ1, env, s1, P, re.ext e1, rs1, h1, fun d st' hd => (hP d st' hd).ext e1⟩
  | false => rw [if_neg Bool.false_ne_true] at h1 ⊢; exact ⟨φ1, env, s1, P, re.ext e1, rs1, h1, fun d st' hd => (hP d st' hd).ext e1⟩

/-! argument lists, displays, calls -/
def dNil : DA := fun _ st P => P [] st
def dCons (ta : DE) (tr : DA) : DA := fun env st P => ta env st fun x s => tr env s fun xs s' => P (x :: xs) s'
theorem d_nil : PA X [] (rdA X.K dNil) := pa_mono pa_nil fun σ H Q h => by
  obtain ⟨φ, env, st, P, re, rs, h, hP⟩ := h
  exact hP [] st h φ [] H .refl .nil rs
theorem d_cons {es : List Expr} {t : DA} (ha : PE X e (rdE X.K te)) (hr : PA X es (rdA X.K t)) (hs : starEach (e :: es) X.env = (false, eval e X.env) :: starEach es X.env := by rfl) : PA X (e :: es) (rdA X.K (dCons te t)) := by
  refine pa_mono (pa_cons ha hr hs) fun σ H Q h => ?_
  obtain ⟨φ, env, st, P, re, rs, h, hP⟩ := h
  exact ⟨φ, env, st, _, re, rs, h, fun x s1 h1 φ1 v H1 e1 rx rs1 => ⟨φ1, env, s1, _, re.ext e1, rs1, h1, fun xs s2 h2 φ2 vs H2 e2 rxs rs2 => hP _ s2 h2 φ2 _ H2 (e1.trans e2) (.cons (rx.ext e2) rxs) rs2⟩⟩
def dTup (t : DA) : DE := fun env st P => t env st fun xs s => xs.length ≤ 10000 ∧ P (.tup xs) s
def dLst (t : DA) : DE := fun env st P => t env st fun xs s => xs.length ≤ 10000 ∧ P (.ref s.length) (s ++ [xs])
theorem line4 {n : Nat} (h : n ≤ 10000) : n ≤ sizeLine := by rw [sizeLine_eq]; omega
theorem line5 {n : Nat} (h : n ≤ 100000) : n ≤ sizeLine := by rw [sizeLine_eq]; omega
/-- a new tuple -/
theorem post_tup {K : PySem.W.Frag} {φ : List Addr} {H : Hp} {st : Store} {ds : List D} {vs : List V} {p : Addr} {Q : VK} (hP : Post K φ H Q (.tup ds) st) (rs : RelSt K H φ st) (r : RelDs K H φ ds vs) (hp : H p = none) : Q (.ref p) (upd H p (.tup vs)) :=
  hP φ _ _ (Ext.new0 hp) (by unfold RelD; exact ⟨p, vs, rfl, .inl (.inl upd_same), r.ext (Ext.new0 hp)⟩) (rs.new0 hp)
/-- a new list -/
theorem post_lst {K : PySem.W.Frag} {φ : List Addr} {H : Hp} {st : Store} {ds : List D} {vs : List V} {p : Addr} {Q : VK} (hP : Post K φ H Q (.ref st.length) (st ++ [ds])) (rs : RelSt K H φ st) (r : RelDs K H φ ds vs) (hp : H p = none) : Q (.ref p) (upd H p (.lst vs)) :=
  hP (φ ++ [p]) _ _ (Ext.new hp [p]) (by unfold RelD; exact ⟨p, rfl, by rw [← rs.len, List.getElem?_append_right (Nat.le_refl _)]; simp⟩) (rs.push hp r)
/-- a value that stands -/
theorem post_same {K : PySem.W.Frag} {φ : List Addr} {H : Hp} {st : Store} {d : D} {v : V} {Q : VK} (hP : Post K φ H Q d st) (rs : RelSt K H φ st) (r : RelD K H φ d v) : Q v H := hP φ v H .refl r rs
theorem d_tup {es : List Expr} {t : DA} {x1} (h : PA X es (rdA X.K t)) : PE X (.Tuple es x1 pos) (rdE X.K (dTup t)) := by
  refine pe_mono (pe_tup h) fun σ H Q h => ?_
  obtain ⟨φ, env, st, P, re, rs, h, hP⟩ := h
  refine ⟨φ, env, st, _, re, rs, h, fun xs s1 h1 φ1 vs H1 e1 rx rs1 => ⟨line4 (by rw [rx.length]; exact h1.1), fun p hp => ?_⟩⟩
  exact post_tup ((hP _ s1 h1.2).ext e1) rs1 rx hp
theorem d_lst {es : List Expr} {t : DA} (h : PA X es (rdA X.K t)) : PE X (.List es pos) (rdE X.K (dLst t)) := by
  refine pe_mono (pe_lst h) fun σ H Q h => ?_
  obtain ⟨φ, env, st, P, re, rs, h, hP⟩ := h
  refine ⟨φ, env, st, _, re, rs, h, fun xs s1 h1 φ1 vs H1 e1 rx rs1 => ⟨line4 (by rw [rx.length]; exact h1.1), fun p hp => ?_⟩⟩
  exact post_lst ((hP _ _ h1.2).ext e1) rs1 rx hp

/-- a def's promise at the data level -/
abbrev DSp := List D → Store → KD → Prop
def lift (K : PySem.W.Frag) (n : Nat) (sp : DSp) : Sp := fun vs H Q _ => vs.length = n ∧ ∃ φ ds st P, RelDs K H φ ds vs ∧ RelSt K H φ st ∧ sp ds st P ∧ ∀ d st', P d st' → Post K φ H Q d st'
/-- a def may be called by its name -/
abbrev DCal (P : Program) (w : World) (K : PySem.W.Frag) (mg : Str → Option Value) (base : Heap) (k : Nat) (x : Str) (n : Nat) (sp : DSp) : Prop := Cal P w K mg base k x (lift K n sp) []
def dCall (n : Nat) (sp : DSp) (t : DA) : DE := fun env st P => t env st fun ds s => ds.length = n ∧ sp ds s P
theorem d_call {x : Str} {p : Pos} {es : List Expr} {t : DA} {k j n : Nat} {sp : DSp} (c : DCal X.prog X.w X.K X.mg X.base k x n sp) (hr : Room j X.A) (hk : k ≤ j) (hg : Gl X x) (ha : PA X (e :: es) (rdA X.K t))
    (hdb : (x == ("__debug__" : Str)) = false := by decide) (he : starEach (e :: es) X.env = (false, eval e X.env) :: starEach es X.env := by rfl) (hpl : (backTo pos (starEach es X.env)).any (·.1) = false := by rfl) :
    PE X (.Call (.Name x p) (e :: es) [] pos) (rdE X.K (dCall n sp t)) := by
  refine pe_mono (pe_c c hr hk hg ha hdb he hpl) fun σ H Q h => ?_
  obtain ⟨φ, env, st, P, re, rs, h, hP⟩ := h
  refine ⟨φ, env, st, _, re, rs, h, fun ds s1 h1 φ1 vs H1 e1 rx rs1 => ?_⟩
  refine ⟨by rw [List.append_nil, rx.length]; exact h1.1, φ1, ds, s1, P, by rw [List.append_nil]; exact rx, rs1, h1.2, fun d st' hd => (hP d st' hd).ext e1⟩
/-- built-ins -/
abbrev RCall := List D → Store → KD → Prop
def ImpCall (K : PySem.W.Frag) (rd : RCall) (r : List V → Hp → VK → Prop) : Prop := ∀ φ H st ds vs P Q, RelSt K H φ st → RelDs K H φ ds vs → rd ds st P → (∀ d st', P d st' → Post K φ H Q d st') → r vs H Q
def dBlt (rd : RCall) (t : DA) : DE := fun env st P => t env st fun ds s => rd ds s P
theorem blt_imp {K : PySem.W.Frag} {rd : RCall} {r : List V → Hp → VK → Prop} {t : DA} (im : ImpCall K rd r) : ∀ σ H Q, rdE K (dBlt rd t) σ H Q → tCB r (rdA K t) σ H Q := by
  intro σ H Q h
  obtain ⟨φ, env, st, P, re, rs, h, hP⟩ := h
  exact ⟨φ, env, st, _, re, rs, h, fun ds s1 h1 φ1 vs H1 e1 rx rs1 => im φ1 H1 s1 ds vs P Q rs1 rx h1 fun d st' hd => (hP d st' hd).ext e1⟩
theorem d_blt {id : String} {x : Str} {p : Pos} {es : List Expr} {t : DA} {rd : RCall} {r : List V → Hp → VK → Prop} (hc : CallR X (.builtin id) r) (im : ImpCall X.K rd r) (hg : Gl X x) (hm : X.mg x = none) (hv : bootBuiltins x = some (.builtin id)) (ha : PA X (e :: es) (rdA X.K t)) (hn : x ≠ "__name__" := by decide) (hdb : (x == ("__debug__" : Str)) = false := by decide)
    (he : starEach (e :: es) X.env = (false, eval e X.env) :: starEach es X.env := by rfl) (hpl : (backTo pos (starEach es X.env)).any (·.1) = false := by rfl) : PE X (.Call (.Name x p) (e :: es) [] pos) (rdE X.K (dBlt rd t)) :=
  pe_mono (pe_callB hc hg hm hv ha hn hdb he hpl) (blt_imp im)
theorem d_bty {T : String} {x : Str} {p : Pos} {es : List Expr} {t : DA} {rd : RCall} {r : List V → Hp → VK → Prop} (hc : CallR X (.type T) r) (im : ImpCall X.K rd r) (hg : Gl X x) (hm : X.mg x = none) (hv : bootBuiltins x = some (.type T)) (ha : PA X (e :: es) (rdA X.K t)) (hn : x ≠ "__name__" := by decide) (hdb : (x == ("__debug__" : Str)) = false := by decide)
    (he : starEach (e :: es) X.env = (false, eval e X.env) :: starEach es X.env := by rfl) (hpl : (backTo pos (starEach es X.env)).any (·.1) = false := by rfl) : PE X (.Call (.Name x p) (e :: es) [] pos) (rdE X.K (dBlt rd t)) :=
  pe_mono (pe_callTy hc hg hm hv ha hn hdb he hpl) (blt_imp im)

/-! subscripts, slices -/
theorem d_ix {rd : ROp} {r : R2} (hr : IxR X r) (im : ImpOp X.K rd r) (ha : PE X a (rdE X.K ta)) (hb : PE X b (rdE X.K tb)) (hs : PlainIx b) : PE X (.Subscript a b pos) (rdE X.K (dOp rd ta tb)) := pe_mono (pe_ix hr ha hb hs) (op_imp im)
abbrev DO := Env → Store → (Option Int → Store → Prop) → Prop
def rdO (K : PySem.W.Frag) (t : DO) : TO := fun σ H Q => ∃ φ env st P, RelE K H φ σ env ∧ RelSt K H φ st ∧ t env st P ∧ ∀ o st', P o st' → ∀ φ' H', Ext K φ H φ' H' → RelSt K H' φ' st' → Q o H'
def dNoPart : DO := fun _ st P => P none st
def dPart (t : DE) : DO := fun env st P => t env st fun d s => match d with | .int i => P (some i) s | _ => False
theorem po_mono {e : Option Expr} {t u : TO} (h : PO X e t) (i : ∀ σ H Q, u σ H Q → t σ H Q) : PO X e u := ⟨fun pins s σ H Q I q => h.run pins s σ H Q I (i σ H Q q)⟩
theorem d_noPart : PO X none (rdO X.K dNoPart) := po_mono po_none fun σ H Q h => by
  obtain ⟨φ, env, st, P, re, rs, h, hP⟩ := h
  exact hP none st h φ H .refl rs
theorem d_part (h : PE X e (rdE X.K te)) : PO X (some e) (rdO X.K (dPart te)) := po_mono (po_some h) fun σ H Q h => by
  obtain ⟨φ, env, st, P, re, rs, h, hP⟩ := h
  refine ⟨φ, env, st, _, re, rs, h, fun d s1 h1 φ1 v H1 e1 rv rs1 => ?_⟩
  cases d with
  | int i =>
    unfold RelD at rv
    exact ⟨i, rv, hP _ s1 h1 φ1 H1 e1 rs1⟩
  | _ => exact h1.elim
abbrev RSl := D → Option Int → Option Int → Store → KD → Prop
def ImpSl (K : PySem.W.Frag) (rd : RSl) (r : V → Option Int → Option Int → Hp → VK → Prop) : Prop := ∀ φ H st x v lo hi P Q, RelSt K H φ st → RelD K H φ x v → rd x lo hi st P → (∀ d st', P d st' → Post K φ H Q d st') → r v lo hi H Q
def dSl (rd : RSl) (te : DE) (tl th : DO) : DE := fun env st P => te env st fun x s1 => tl env s1 fun l s2 => th env s2 fun h s3 => rd x l h s3 P
theorem d_sl {lo hi : Option Expr} {tl th : DO} {rd : RSl} {r : V → Option Int → Option Int → Hp → VK → Prop} {p2 : Pos} (hr : SlR X r) (im : ImpSl X.K rd r) (he : PE X e (rdE X.K te)) (hl : PO X lo (rdO X.K tl)) (hu : PO X hi (rdO X.K th)) : PE X (.Subscript e (.Slice lo hi none p2) pos) (rdE X.K (dSl rd te tl th)) := by
  refine pe_mono (pe_slice hr he hl hu) fun σ H Q h => ?_
  obtain ⟨φ, env, st, P, re, rs, h, hP⟩ := h
  refine ⟨φ, env, st, _, re, rs, h, fun x s1 h1 φ1 v H1 e1 rx rs1 => ⟨φ1, env, s1, _, re.ext e1, rs1, h1, fun l s2 h2 φ2 H2 e2 rs2 => ⟨φ2, env, s2, _, (re.ext e1).ext e2, rs2, h2, fun u s3 h3 φ3 H3 e3 rs3 => ?_⟩⟩⟩
  exact im φ3 H3 s3 x v l u P Q rs3 (rx.ext (e2.trans e3)) h3 fun d st' hd => (hP d st' hd).ext ((e1.trans e2).trans e3)
end
end DL

/-! The data level: operators, built-ins, subscripts, by values. -/
namespace DL
open PySem PySem.Spec PyProof.Rows L2

section
variable {K : PySem.W.Frag} {φ : List Addr} {H : Hp}
theorem rel_int {i : Int} {v : V} : RelD K H φ (.int i) v ↔ v = .int i := by unfold RelD; rfl
theorem rel_bl {i : Bool} {v : V} : RelD K H φ (.bl i) v ↔ v = .bl i := by unfold RelD; rfl
theorem rel_str {i : Str} {v : V} : RelD K H φ (.str i) v ↔ v = .str i := by unfold RelD; rfl
theorem rel_ty {i : String} {v : V} : RelD K H φ (.ty i) v ↔ v = .ty i := by unfold RelD; rfl
theorem rel_non {v : V} : RelD K H φ .non v ↔ v = .non := by unfold RelD; rfl
theorem rel_tup {ds : List D} {v : V} : RelD K H φ (.tup ds) v ↔ ∃ a vs, v = .ref a ∧ SqT K H a vs ∧ RelDs K H φ ds vs := by rw [RelD]
theorem rel_ref {n : Nat} {v : V} : RelD K H φ (.ref n) v ↔ ∃ a, v = .ref a ∧ φ[n]? = some a := by rw [RelD]
theorem rel_fz {ds : List D} {v : V} : RelD K H φ (.fz ds) v ↔ ∃ a vs, v = .ref a ∧ SqF K H a vs ∧ RelDs K H φ ds vs := by rw [RelD]
end

/-! arithmetic -/
def MulB (i j : Int) : Prop := i.natAbs.log2 + j.natAbs.log2 < 100000000
theorem MulB.ok {i j : Int} (h : MulB i j) : IntMulOk i j := by
  have b : ∀ x : Int, Builtin.Int.intBits x ≤ x.natAbs.log2 + 1 := fun x => by
    unfold Builtin.Int.intBits
    split <;> omega
  have h1 := b i
  have h2 := b j
  have h3 : i.natAbs.log2 + j.natAbs.log2 < 100000000 := h
  have e : bitsLine = 134217728 := by decide
  unfold IntMulOk
  intro z
  rw [Bool.and_eq_true] at z
  have z2 := z.2
  unfold Builtin.Int.intTooBig at z2
  have z3 := of_decide_eq_true z2
  rw [e] at z3
  omega
def FdivB (j : Int) : Prop := j ≠ 0 ∧ j.natAbs.log2 < 9000
section
variable {X : Cx}
theorem op_mulB : OpR X (binaryOp .Mult) (rI MulB fun i j => .int (i * j)) := opI fun _ _ _ _ _ _ _ hc q => mul_int q hc.ok
theorem op_fdivB : OpR X (binaryOp .FloorDiv) (rI (fun _ j => FdivB j) fun i j => .int (i.fdiv j)) := opI fun i j _ _ _ _ _ hc q => floordiv_int hc.1 q (.inl (PyProof.noPylong_of_log2 hc.2))
end

def rAddD : ROp := fun x y st P => match x, y with
  | .int i, .int j => P (.int (i + j)) st
  | .tup a, .tup b => a.length + b.length ≤ 10000 ∧ P (.tup (a ++ b)) st
  | .ref n, .ref m => optK st[n]? fun a => optK st[m]? fun b => a.length + b.length ≤ 10000 ∧ P (.ref st.length) (st ++ [a ++ b])
  | .str a, .str b => a.length + b.length ≤ 10000 ∧ P (.str (a ++ b)) st
  | _, _ => False
def rSubD : ROp := fun x y st P => match x, y with | .int i, .int j => P (.int (i - j)) st | _, _ => False
def rMulD : ROp := fun x y st P => match x, y with
  | .int i, .int j => MulB i j ∧ P (.int (i * j)) st
  | .ref n, .int k => optK st[n]? fun a => k ≤ 10000 ∧ -10000 ≤ k ∧ a.length ≤ 1 ∧ P (.ref st.length) (st ++ [(List.replicate k.toNat a).flatten])
  | _, _ => False
def rFdivD : ROp := fun x y st P => match x, y with | .int i, .int j => FdivB j ∧ P (.int (i.fdiv j)) st | _, _ => False
def rModD : ROp := fun x y st P => match x, y with | .int i, .int j => j ≠ 0 ∧ P (.int (i.fmod j)) st | _, _ => False
def rNegD : D → Store → KD → Prop := fun x st P => match x with | .int i => P (.int (-i)) st | _ => False
def rCmpD (f : Int → Int → Bool) : ROp := fun x y st P => match x, y with | .int i, .int j => P (.bl (f i j)) st | _, _ => False
abbrev rLtD : ROp := rCmpD fun i j => decide (i < j)
abbrev rLeD : ROp := rCmpD fun i j => decide (i ≤ j)
abbrev rGtD : ROp := rCmpD fun i j => decide (j < i)
abbrev rGeD : ROp := rCmpD fun i j => decide (j ≤ i)

section
variable {X : Cx}
theorem im_sub : ImpOp X.K rSubD (rI0 fun i j => .int (i - j)) := by
  intro φ H st x y v u P Q rs rx ry h hP
  cases x <;> cases y <;> first | exact h.elim | skip
  obtain rfl := rel_int.mp rx
  obtain rfl := rel_int.mp ry
  exact ⟨_, _, rfl, rfl, post_same (hP _ _ h) rs (rel_int.mpr rfl)⟩
theorem im_fdiv : ImpOp X.K rFdivD (rI (fun _ j => FdivB j) fun i j => .int (i.fdiv j)) := by
  intro φ H st x y v u P Q rs rx ry h hP
  cases x <;> cases y <;> first | exact h.elim | skip
  obtain rfl := rel_int.mp rx
  obtain rfl := rel_int.mp ry
  exact ⟨_, _, rfl, rfl, h.1, post_same (hP _ _ h.2) rs (rel_int.mpr rfl)⟩
theorem im_mod : ImpOp X.K rModD (rI (fun _ j => j ≠ 0) fun i j => .int (i.fmod j)) := by
  intro φ H st x y v u P Q rs rx ry h hP
  cases x <;> cases y <;> first | exact h.elim | skip
  obtain rfl := rel_int.mp rx
  obtain rfl := rel_int.mp ry
  exact ⟨_, _, rfl, rfl, h.1, post_same (hP _ _ h.2) rs (rel_int.mpr rfl)⟩
theorem im_neg : ImpUn X.K rNegD (rU fun i => .int (-i)) := by
  intro φ H st x v P Q rs rx h hP
  cases x <;> first | exact h.elim | skip
  obtain rfl := rel_int.mp rx
  exact ⟨_, rfl, post_same (hP _ _ h) rs (rel_int.mpr rfl)⟩
theorem im_cmp {f : Int → Int → Bool} : ImpOp X.K (rCmpD f) (rI0 fun i j => .bl (f i j)) := by
  intro φ H st x y v u P Q rs rx ry h hP
  cases x <;> cases y <;> first | exact h.elim | skip
  obtain rfl := rel_int.mp rx
  obtain rfl := rel_int.mp ry
  exact ⟨_, _, rfl, rfl, post_same (hP _ _ h) rs (rel_bl.mpr rfl)⟩
abbrev rAddV (K : PySem.W.Frag) : R2 := fun x y H Q => rI0 (fun i j => .int (i + j)) x y H Q ∨ rCatA K x y H Q ∨ rCat x y H Q ∨ ∃ i j, x = .str i ∧ y = .str j ∧ i.length + j.length ≤ sizeLine ∧ Q (.str (i ++ j)) H
theorem op_addD : OpR X (binaryOp .Add) (rAddV X.K) := op_add.or (op_catA.or (op_cat.or op_add_str))
theorem im_add : ImpOp X.K rAddD (rAddV X.K) := by
  intro φ H st x y v u P Q rs rx ry h hP
  cases x <;> cases y <;> first | exact h.elim | skip
  · obtain rfl := rel_int.mp rx
    obtain rfl := rel_int.mp ry
    exact .inl ⟨_, _, rfl, rfl, post_same (hP _ _ h) rs (rel_int.mpr rfl)⟩
  · obtain rfl := rel_str.mp rx
    obtain rfl := rel_str.mp ry
    exact .inr (.inr (.inr ⟨_, _, rfl, rfl, line4 h.1, post_same (hP _ _ h.2) rs (rel_str.mpr rfl)⟩))
  · rename_i ds es
    obtain ⟨a, vs, rfl, ha, ra⟩ := rel_tup.mp rx
    obtain ⟨b, ws, rfl, hb, rb⟩ := rel_tup.mp ry
    have la := ra.length
    have lb := rb.length
    refine .inr (.inl ⟨a, b, vs, ws, rfl, rfl, ha, hb, line4 (by rw [la, lb]; exact h.1), fun e => ?_, fun _ e => ?_, fun _ _ p hp => post_tup (hP _ _ h.2) rs (ra.append rb) hp⟩)
    · subst e
      have : ds = [] := by simpa using la.symm
      subst this
      exact post_same (hP _ _ h.2) rs ry
    · subst e
      have : es = [] := by simpa using lb.symm
      subst this
      exact post_same (hP _ _ h.2) rs (by rw [List.append_nil]; exact rx)
  · rename_i n m
    obtain ⟨a, rfl, ha⟩ := rel_ref.mp rx
    obtain ⟨b, rfl, hb⟩ := rel_ref.mp ry
    obtain ⟨ds, vs, e1, h1, r1⟩ := rs.get ha
    obtain ⟨es, ws, e2, h2, r2⟩ := rs.get hb
    have h : optK st[n]? fun a => optK st[m]? fun b => a.length + b.length ≤ 10000 ∧ P (.ref st.length) (st ++ [a ++ b]) := h
    rw [e1, e2] at h
    exact .inr (.inr (.inl ⟨a, b, vs, ws, rfl, rfl, h1, h2, line4 (by rw [r1.length, r2.length]; exact h.1), fun p hp => post_lst (hP _ _ h.2) rs (r1.append r2) hp⟩))
abbrev rMulV : R2 := fun x y H Q => rI MulB (fun i j => .int (i * j)) x y H Q ∨ rRep x y H Q
theorem op_mulD : OpR X (binaryOp .Mult) rMulV := op_mulB.or op_rep
theorem im_mul : ImpOp X.K rMulD rMulV := by
  intro φ H st x y v u P Q rs rx ry h hP
  cases x <;> cases y <;> first | exact h.elim | skip
  · obtain rfl := rel_int.mp rx
    obtain rfl := rel_int.mp ry
    exact .inl ⟨_, _, rfl, rfl, h.1, post_same (hP _ _ h.2) rs (rel_int.mpr rfl)⟩
  · rename_i n k
    obtain ⟨a, rfl, ha⟩ := rel_ref.mp rx
    obtain rfl := rel_int.mp ry
    obtain ⟨ds, vs, e1, h1, r1⟩ := rs.get ha
    have h : optK st[n]? fun a => k ≤ 10000 ∧ -10000 ≤ k ∧ a.length ≤ 1 ∧ P (.ref st.length) (st ++ [(List.replicate k.toNat a).flatten]) := h
    rw [e1] at h
    obtain ⟨k1, k2, k3, q⟩ := h
    refine .inr ⟨a, k, vs, rfl, rfl, h1, by omega, by omega, line4 ?_, fun p hp => post_lst (hP _ _ q) rs (r1.flat _) hp⟩
    rw [r1.length]
    have : ds.length * k.toNat ≤ 1 * k.toNat := Nat.mul_le_mul_right _ k3
    omega
end

/-! == and in, by data -/
def optAll {α : Type} : List (Option α) → Option (List α)
  | [] => some []
  | none :: _ => none
  | some a :: r => match optAll r with | some l => some (a :: l) | none => none
def toPy (st : Store) : Nat → D → Option PyData
  | 0, _ => none
  | _ + 1, .non => some .none
  | _ + 1, .bl b => some (.bool b)
  | _ + 1, .int i => some (.int i)
  | _ + 1, .str s => if PyData.strOk s = true then some (.str s) else none
  | n + 1, .tup ds => match optAll (ds.map (toPy st n)) with | some l => some (.tuple l) | none => none
  | n + 1, .ref k => match st[k]? with
    | some ds => match optAll (ds.map (toPy st n)) with | some l => some (.list l) | none => none
    | none => none
  | n + 1, .fz ds => match optAll (ds.map (toPy st n)) with | some l => some (.list l) | none => none
  | _ + 1, .ty _ => none

section
variable {K : PySem.W.Frag} {φ : List Addr} {H : Hp} {st : Store}
theorem dpAll_of {n : Nat} (ih : ∀ d v p, RelD K H φ d v → toPy st n d = some p → Dp K H v p) : ∀ (ds : List D) (vs : List V) (ps : List PyData), RelDs K H φ ds vs → optAll (ds.map (toPy st n)) = some ps → DpAll K H vs ps
  | [], vs, ps, r, e => by
    obtain rfl := relDs_nil.mp r
    cases e
    exact .nil
  | d :: ds, vs, ps, r, e => by
    obtain ⟨v, w, rfl, h1, h2⟩ := relDs_cons.mp r
    rw [List.map_cons] at e
    cases q : toPy st n d with
    | none => rw [q] at e; cases e
    | some p =>
      rw [q] at e
      unfold optAll at e
      cases q2 : optAll (ds.map (toPy st n)) with
      | none => rw [q2] at e; cases e
      | some l =>
        rw [q2] at e
        cases e
        exact .cons (ih d v p h1 q) (dpAll_of ih ds w l h2 q2)
theorem dp_of (rs : RelSt K H φ st) : ∀ (n : Nat) (d : D) (v : V) (p : PyData), RelD K H φ d v → toPy st n d = some p → Dp K H v p
  | 0, d, v, p, r, e => by simp [toPy] at e
  | n + 1, .non, v, p, r, e => by
    obtain rfl := rel_non.mp r
    simp only [toPy, Option.some.injEq] at e
    subst e
    exact .non
  | n + 1, .bl b, v, p, r, e => by
    obtain rfl := rel_bl.mp r
    simp only [toPy, Option.some.injEq] at e
    subst e
    exact .bl b
  | n + 1, .int b, v, p, r, e => by
    obtain rfl := rel_int.mp r
    simp only [toPy, Option.some.injEq] at e
    subst e
    exact .int b
  | n + 1, .str b, v, p, r, e => by
    obtain rfl := rel_str.mp r
    simp only [toPy] at e
    split at e
    · cases e; exact .str b
    · cases e
  | n + 1, .ty b, v, p, r, e => by simp [toPy] at e
  | n + 1, .tup ds, v, p, r, e => by
    obtain ⟨a, vs, rfl, hs, rd⟩ := rel_tup.mp r
    simp only [toPy] at e
    split at e
    · rename_i l q
      cases e
      exact .tup hs (dpAll_of (dp_of rs n) ds vs l rd q)
    · cases e
  | n + 1, .fz ds, v, p, r, e => by
    obtain ⟨a, vs, rfl, hs, rd⟩ := rel_fz.mp r
    simp only [toPy] at e
    split at e
    · rename_i l q
      cases e
      exact .lst hs.sql (dpAll_of (dp_of rs n) ds vs l rd q)
    · cases e
  | n + 1, .ref k, v, p, r, e => by
    obtain ⟨a, rfl, ha⟩ := rel_ref.mp r
    obtain ⟨ds, vs, e1, h1, rd⟩ := rs.get ha
    simp only [toPy, e1] at e
    split at e
    · rename_i l q
      cases e
      exact .lst (.of h1) (dpAll_of (dp_of rs n) ds vs l rd q)
    · cases e
theorem shapedAll {n : Nat} (ih : ∀ d p, toPy st n d = some p → p.canLay0 = true ∧ p.depth ≤ n) : ∀ (ds : List D) (ps : List PyData), optAll (ds.map (toPy st n)) = some ps → PyData.canLayAll0 ps = true ∧ PyData.depthAll ps ≤ n
  | [], ps, e => by
    cases e
    exact ⟨by simp [PyData.canLayAll0], by simp [PyData.depthAll]⟩
  | d :: ds, ps, e => by
    rw [List.map_cons] at e
    cases q : toPy st n d with
    | none => rw [q] at e; cases e
    | some p =>
      rw [q] at e
      unfold optAll at e
      cases q2 : optAll (ds.map (toPy st n)) with
      | none => rw [q2] at e; cases e
      | some l =>
        rw [q2] at e
        cases e
        obtain ⟨h1, h2⟩ := ih d p q
        obtain ⟨h3, h4⟩ := shapedAll ih ds l q2
        refine ⟨by simp [PyData.canLayAll0, h1, h3], ?_⟩
        simp only [PyData.depthAll]
        omega
theorem shaped_py : ∀ (n : Nat) (d : D) (p : PyData), toPy st n d = some p → p.canLay0 = true ∧ p.depth ≤ n
  | 0, d, p, e => by simp [toPy] at e
  | n + 1, .non, p, e => by simp only [toPy, Option.some.injEq] at e; subst e; simp [PyData.canLay0, PyData.depth]
  | n + 1, .bl b, p, e => by simp only [toPy, Option.some.injEq] at e; subst e; simp [PyData.canLay0, PyData.depth]
  | n + 1, .int b, p, e => by simp only [toPy, Option.some.injEq] at e; subst e; simp [PyData.canLay0, PyData.depth]
  | n + 1, .str b, p, e => by
    simp only [toPy] at e
    split at e
    · rename_i h
      cases e
      simp [PyData.canLay0, PyData.depth, h]
    · cases e
  | n + 1, .ty b, p, e => by simp [toPy] at e
  | n + 1, .tup ds, p, e => by
    simp only [toPy] at e
    split at e
    · rename_i l q
      cases e
      obtain ⟨h1, h2⟩ := shapedAll (shaped_py n) ds l q
      simp only [PyData.canLay0, PyData.depth, h1]
      exact ⟨trivial, by omega⟩
    · cases e
  | n + 1, .fz ds, p, e => by
    simp only [toPy] at e
    split at e
    · rename_i l q
      cases e
      obtain ⟨h1, h2⟩ := shapedAll (shaped_py n) ds l q
      simp only [PyData.canLay0, PyData.depth, h1]
      exact ⟨trivial, by omega⟩
    · cases e
  | n + 1, .ref k, p, e => by
    simp only [toPy] at e
    split at e
    · rename_i ds e1
      split at e
      · rename_i l q
        cases e
        obtain ⟨h1, h2⟩ := shapedAll (shaped_py n) ds l q
        simp only [PyData.canLay0, PyData.depth, h1]
        exact ⟨trivial, by omega⟩
      · cases e
    · cases e
theorem shaped_of {d : D} {p : PyData} (e : toPy st 20 d = some p) : SeqAt.shaped p = true := by
  obtain ⟨h1, h2⟩ := shaped_py 20 d p e
  unfold SeqAt.shaped
  rw [h1, decide_eq_true (by omega)]
  rfl
end

def rEqB (neg : Bool) : ROp := fun x y st P => optK (toPy st 20 x) fun p => optK (toPy st 20 y) fun q => P (.bl (if neg then !PyData.eqv p q else PyData.eqv p q)) st
abbrev rEqD' : ROp := rEqB false
abbrev rNeD' : ROp := rEqB true
def inPy (p : PyData) : List PyData → Bool
  | [] => false
  | q :: r => PyData.eqv q p || inPy p r
theorem inPy_any (p : PyData) : ∀ ps : List PyData, inPy p ps = ps.any fun z => PyData.eqv z p
  | [] => rfl
  | q :: r => by rw [inPy, List.any_cons, inPy_any p r]
def rInB (neg : Bool) : ROp := fun x y st P => optK (toPy st 20 x) fun p => optK (toPy st 20 y) fun c => match c with
  | .list qs => P (.bl (if neg then !inPy p qs else inPy p qs)) st
  | .tuple qs => P (.bl (if neg then !inPy p qs else inPy p qs)) st
  | _ => False
section
variable {X : Cx}
theorem im_eq : ImpOp X.K rEqD' (rEqD X.K) := by
  intro φ H st x y v u P Q rs rx ry h hP
  unfold rEqD' rEqB at h
  obtain ⟨p, e1, h⟩ := optK_elim h
  obtain ⟨q, e2, h⟩ := optK_elim h
  exact ⟨p, q, dp_of rs 20 x v p rx e1, dp_of rs 20 y u q ry e2, shaped_of e1, shaped_of e2, post_same (hP _ _ h) rs (rel_bl.mpr rfl)⟩
theorem im_ne : ImpOp X.K rNeD' (rNeD X.K) := by
  intro φ H st x y v u P Q rs rx ry h hP
  unfold rNeD' rEqB at h
  obtain ⟨p, e1, h⟩ := optK_elim h
  obtain ⟨q, e2, h⟩ := optK_elim h
  exact ⟨p, q, dp_of rs 20 x v p rx e1, dp_of rs 20 y u q ry e2, shaped_of e1, shaped_of e2, post_same (hP _ _ h) rs (rel_bl.mpr rfl)⟩
/-- in a list or a tuple -/
def rInA (K : PySem.W.Frag) (neg : Bool) : R2 := fun x y H Q => ∃ d ds, Dp K H x d ∧ (Dp K H y (.list ds) ∧ SeqAt.shaped (.list ds) = true ∨ Dp K H y (.tuple ds) ∧ SeqAt.shaped (.tuple ds) = true) ∧ SeqAt.shaped d = true ∧ Q (.bl (if neg then !(ds.any fun z => PyData.eqv z d) else ds.any fun z => PyData.eqv z d)) H
theorem op_inA (hu : X.A.units + 65 < cLine) : OpR X (compareOp .In) (rInA X.K false) := by
  intro pins s σ H x y v u Q I rx ry h
  obtain ⟨d, ds, hd, he, sd, q⟩ := h
  obtain ⟨as, r1⟩ := Dp.reads I d x v hd rx
  rcases he with ⟨he, se⟩ | ⟨he, se⟩
  · obtain ⟨bs, r2⟩ := Dp.reads I (.list ds) y u he ry
    exact SeqAt.in_list_reads r2 r1 (SeqAt.canLay_of_shaped se) (SeqAt.canLay_of_shaped sd) (room_in_shaped sd hu) ⟨.bl _, H, I, rfl, q⟩
  · obtain ⟨bs, r2⟩ := Dp.reads I (.tuple ds) y u he ry
    exact SeqAt.in_tuple_reads r2 r1 (SeqAt.canLay_of_shaped se) (SeqAt.canLay_of_shaped sd) (room_in_shaped sd hu) ⟨.bl _, H, I, rfl, q⟩
theorem op_notInA (hu : X.A.units + 65 < cLine) : OpR X (compareOp .NotIn) (rInA X.K true) := by
  intro pins s σ H x y v u Q I rx ry h
  obtain ⟨d, ds, hd, he, sd, q⟩ := h
  obtain ⟨as, r1⟩ := Dp.reads I d x v hd rx
  rcases he with ⟨he, se⟩ | ⟨he, se⟩
  · obtain ⟨bs, r2⟩ := Dp.reads I (.list ds) y u he ry
    exact SeqAt.notIn_list_reads r2 r1 (SeqAt.canLay_of_shaped se) (SeqAt.canLay_of_shaped sd) (room_in_shaped sd hu) ⟨.bl _, H, I, rfl, q⟩
  · obtain ⟨bs, r2⟩ := Dp.reads I (.tuple ds) y u he ry
    exact SeqAt.notIn_tuple_reads r2 r1 (SeqAt.canLay_of_shaped se) (SeqAt.canLay_of_shaped sd) (room_in_shaped sd hu) ⟨.bl _, H, I, rfl, q⟩
theorem im_in {neg : Bool} : ImpOp X.K (rInB neg) (rInA X.K neg) := by
  intro φ H st x y v u P Q rs rx ry h hP
  unfold rInB at h
  obtain ⟨p, e1, h⟩ := optK_elim h
  obtain ⟨c, e2, h⟩ := optK_elim h
  split at h
  · rename_i qs
    refine ⟨p, qs, dp_of rs 20 x v p rx e1, .inl ⟨dp_of rs 20 y u _ ry e2, shaped_of e2⟩, shaped_of e1, ?_⟩
    rw [← inPy_any]
    exact post_same (hP _ _ h) rs (rel_bl.mpr rfl)
  · rename_i qs
    refine ⟨p, qs, dp_of rs 20 x v p rx e1, .inr ⟨dp_of rs 20 y u _ ry e2, shaped_of e2⟩, shaped_of e1, ?_⟩
    rw [← inPy_any]
    exact post_same (hP _ _ h) rs (rel_bl.mpr rfl)
  · exact h.elim
end

/-! is None, is True -/
def isNon : D → Bool
  | .non => true
  | _ => false
theorem isNon_rel {K : PySem.W.Frag} {φ : List Addr} {H : Hp} {d : D} {v : V} (r : RelD K H φ d v) : decide (v = .non) = isNon d := by
  cases d with
  | non => obtain rfl := rel_non.mp r; rfl
  | bl b => obtain rfl := rel_bl.mp r; rfl
  | int b => obtain rfl := rel_int.mp r; rfl
  | str b => obtain rfl := rel_str.mp r; rfl
  | ty b => obtain rfl := rel_ty.mp r; rfl
  | tup ds => obtain ⟨a, _, rfl, _⟩ := rel_tup.mp r; rfl
  | ref n => obtain ⟨a, rfl, _⟩ := rel_ref.mp r; rfl
  | fz ds => obtain ⟨a, _, rfl, _⟩ := rel_fz.mp r; rfl
def rIsD (neg : Bool) : ROp := fun x y st P => match y with
  | .non => P (.bl (if neg then !isNon x else isNon x)) st
  | .bl b => match x with | .bl a => P (.bl (if neg then !decide (a = b) else decide (a = b))) st | _ => False
  | _ => False
section
variable {X : Cx}
abbrev rIsV : R2 := fun x y H Q => (y = .non ∧ Q (.bl (decide (x = .non))) H) ∨ rIsB x y H Q
abbrev rIsNotV : R2 := fun x y H Q => (y = .non ∧ Q (.bl (!decide (x = .non))) H) ∨ rNotB x y H Q
theorem op_isD : OpR X (compareOp .Is) rIsV := op_isN.or op_isBl
theorem op_isNotD : OpR X (compareOp .IsNot) rIsNotV := op_notN.or op_notBl
theorem im_is : ImpOp X.K (rIsD false) rIsV := by
  intro φ H st x y v u P Q rs rx ry h hP
  cases y <;> first | exact h.elim | skip
  · exact .inl ⟨rel_non.mp ry, by rw [isNon_rel rx]; exact post_same (hP _ _ h) rs (rel_bl.mpr rfl)⟩
  · cases x <;> first | exact h.elim | skip
    exact .inr ⟨_, _, rel_bl.mp rx, rel_bl.mp ry, post_same (hP _ _ h) rs (rel_bl.mpr rfl)⟩
theorem im_isNot : ImpOp X.K (rIsD true) rIsNotV := by
  intro φ H st x y v u P Q rs rx ry h hP
  cases y <;> first | exact h.elim | skip
  · exact .inl ⟨rel_non.mp ry, by rw [isNon_rel rx]; exact post_same (hP _ _ h) rs (rel_bl.mpr rfl)⟩
  · cases x <;> first | exact h.elim | skip
    exact .inr ⟨_, _, rel_bl.mp rx, rel_bl.mp ry, post_same (hP _ _ h) rs (rel_bl.mpr rfl)⟩
end
end DL

/-! The data level: built-ins, subscripts, slices. -/
namespace DL
open PySem PySem.Spec PyProof.Rows L2

/-- the items of a list or tuple -/
def seqD (st : Store) : D → Option (List D)
  | .tup ds => some ds
  | .ref n => st[n]?
  | .fz ds => some ds
  | _ => none
theorem seq_of {K : PySem.W.Frag} {φ : List Addr} {H : Hp} {st : Store} {d : D} {v : V} {ds : List D} (rs : RelSt K H φ st) (r : RelD K H φ d v) (e : seqD st d = some ds) : ∃ a vs, v = .ref a ∧ (SqL K H a vs ∨ SqT K H a vs) ∧ RelDs K H φ ds vs := by
  cases d with
  | tup es =>
    cases e
    obtain ⟨a, vs, rfl, h, q⟩ := rel_tup.mp r
    exact ⟨a, vs, rfl, .inr h, q⟩
  | fz es =>
    cases e
    obtain ⟨a, vs, rfl, h, q⟩ := rel_fz.mp r
    exact ⟨a, vs, rfl, .inl h.sql, q⟩
  | ref n =>
    obtain ⟨a, rfl, ha⟩ := rel_ref.mp r
    obtain ⟨ds', vs, e1, h1, q⟩ := rs.get ha
    have e' : st[n]? = some ds := e
    rw [e1] at e'
    cases e'
    exact ⟨a, vs, rfl, .inl (.of h1), q⟩
  | _ => cases e

def rLenD : RCall := fun ds st P => match ds with
  | [.str s] => s.length ≤ 10000 ∧ P (.int s.length) st
  | [d] => optK (seqD st d) fun xs => P (.int xs.length) st
  | _ => False
def rAbsD : RCall := fun ds st P => match ds with | [.int i] => P (.int (if i < 0 then -i else i)) st | _ => False
def rMaxD : RCall := fun ds st P => match ds with | [.int i, .int j] => P (.int (if j > i then j else i)) st | _ => False
def rMinD : RCall := fun ds st P => match ds with | [.int i, .int j] => P (.int (if j < i then j else i)) st | _ => False
def rIntD : RCall := fun ds st P => match ds with | [.int i] => P (.int i) st | [.bl k] => P (.int (if k then 1 else 0)) st | _ => False
def rListD : RCall := fun ds st P => match ds with
  | [d] => optK (seqD st d) fun xs => P (.ref st.length) (st ++ [xs])
  | _ => False
def rTupleD : RCall := fun ds st P => match ds with
  | [d] => optK (seqD st d) fun xs => P (.tup xs) st
  | _ => False
def allBl : List D → Option Bool
  | [] => some true
  | .bl b :: r => match allBl r with | some c => some (b && c) | none => none
  | _ :: _ => none
def rAllD : RCall := fun ds st P => match ds with
  | [.ref n] => optK st[n]? fun xs => optK (allBl xs) fun b => P (.bl b) st
  | _ => False
def tyD : D → Option String
  | .non => some "NoneType"
  | .bl _ => some "bool"
  | .int _ => some "int"
  | .str _ => some "str"
  | .tup _ => some "tuple"
  | .ref _ => some "list"
  | .fz _ => some "list"
  | .ty _ => none
/-- isinstance -/
def rIsiD : RCall := fun ds st P => match ds with
  | [d, .ty n] => optK (tyD d) fun t => optK (kitB t n) fun b => P (.bl b) st
  | _ => False
/-- the rules at hand -/
abbrev rLenV (K : PySem.W.Frag) : List V → Hp → VK → Prop := fun xs H Q => (∃ p ys, xs = [.ref p] ∧ (SqL K H p ys ∨ SqT K H p ys) ∧ Q (.int ys.length) H) ∨ ∃ z, xs = [.str z] ∧ z.length ≤ sizeLine ∧ Q (.int z.length) H
section
variable {X : Cx}
theorem cr_len : CallR X (.builtin "len") (rLenV X.K) := call_len_seq.or call_len_str
theorem relDs_one {K : PySem.W.Frag} {φ : List Addr} {H : Hp} {d : D} {vs : List V} (r : RelDs K H φ [d] vs) : ∃ v, vs = [v] ∧ RelD K H φ d v := by
  obtain ⟨v, w, rfl, h, h2⟩ := relDs_cons.mp r
  obtain rfl := relDs_nil.mp h2
  exact ⟨v, rfl, h⟩
theorem relDs_two {K : PySem.W.Frag} {φ : List Addr} {H : Hp} {d e : D} {vs : List V} (r : RelDs K H φ [d, e] vs) : ∃ v w, vs = [v, w] ∧ RelD K H φ d v ∧ RelD K H φ e w := by
  obtain ⟨v, r2, e1, h, h2⟩ := relDs_cons.mp r
  obtain ⟨w, e2, h3⟩ := relDs_one h2
  subst e2
  exact ⟨v, w, e1, h, h3⟩
theorem im_len : ImpCall X.K rLenD (rLenV X.K) := by
  intro φ H st ds vs P Q rs r h hP
  unfold rLenD at h
  split at h
  · rename_i s
    obtain ⟨v, rfl, rv⟩ := relDs_one r
    obtain rfl := rel_str.mp rv
    exact .inr ⟨_, rfl, line4 h.1, post_same (hP _ _ h.2) rs (rel_int.mpr rfl)⟩
  · rename_i d _
    obtain ⟨v, rfl, rv⟩ := relDs_one r
    obtain ⟨xs, e, h⟩ := optK_elim h
    obtain ⟨a, vs, rfl, q, rd⟩ := seq_of rs rv e
    exact .inl ⟨a, vs, rfl, q, by rw [rd.length]; exact post_same (hP _ _ h) rs (rel_int.mpr rfl)⟩
  · exact h.elim
theorem im_abs : ImpCall X.K rAbsD (fun xs H Q => ∃ i, xs = [.int i] ∧ Q (.int (if i < 0 then -i else i)) H) := by
  intro φ H st ds vs P Q rs r h hP
  unfold rAbsD at h
  split at h
  · obtain ⟨v, rfl, rv⟩ := relDs_one r
    obtain rfl := rel_int.mp rv
    exact ⟨_, rfl, post_same (hP _ _ h) rs (rel_int.mpr rfl)⟩
  · exact h.elim
theorem im_max : ImpCall X.K rMaxD (fun xs H Q => ∃ i j, xs = [.int i, .int j] ∧ Q (.int (if j > i then j else i)) H) := by
  intro φ H st ds vs P Q rs r h hP
  unfold rMaxD at h
  split at h
  · obtain ⟨v, w, rfl, rv, rw'⟩ := relDs_two r
    obtain rfl := rel_int.mp rv
    obtain rfl := rel_int.mp rw'
    exact ⟨_, _, rfl, post_same (hP _ _ h) rs (rel_int.mpr rfl)⟩
  · exact h.elim
theorem im_min : ImpCall X.K rMinD (fun xs H Q => ∃ i j, xs = [.int i, .int j] ∧ Q (.int (if j < i then j else i)) H) := by
  intro φ H st ds vs P Q rs r h hP
  unfold rMinD at h
  split at h
  · obtain ⟨v, w, rfl, rv, rw'⟩ := relDs_two r
    obtain rfl := rel_int.mp rv
    obtain rfl := rel_int.mp rw'
    exact ⟨_, _, rfl, post_same (hP _ _ h) rs (rel_int.mpr rfl)⟩
  · exact h.elim
theorem im_int : ImpCall X.K rIntD (fun xs H Q => (∃ i, xs = [.int i] ∧ Q (.int i) H) ∨ ∃ k, xs = [.bl k] ∧ Q (.int (if k then 1 else 0)) H) := by
  intro φ H st ds vs P Q rs r h hP
  unfold rIntD at h
  split at h
  · obtain ⟨v, rfl, rv⟩ := relDs_one r
    obtain rfl := rel_int.mp rv
    exact .inl ⟨_, rfl, post_same (hP _ _ h) rs (rel_int.mpr rfl)⟩
  · obtain ⟨v, rfl, rv⟩ := relDs_one r
    obtain rfl := rel_bl.mp rv
    exact .inr ⟨_, rfl, post_same (hP _ _ h) rs (rel_int.mpr rfl)⟩
  · exact h.elim
theorem im_list : ImpCall X.K rListD (fun xs H Q => ∃ p ys, xs = [.ref p] ∧ (SqL X.K H p ys ∨ SqT X.K H p ys) ∧ ∀ l, H l = none → Q (.ref l) (upd H l (.lst ys))) := by
  intro φ H st ds vs P Q rs r h hP
  unfold rListD at h
  split at h
  · obtain ⟨v, rfl, rv⟩ := relDs_one r
    obtain ⟨xs, e, h⟩ := optK_elim h
    obtain ⟨a, vs, rfl, q, rd⟩ := seq_of rs rv e
    exact ⟨a, vs, rfl, q, fun l hl => post_lst (hP _ _ h) rs rd hl⟩
  · exact h.elim
theorem im_tuple : ImpCall X.K rTupleD (fun xs H Q => ∃ p ys, xs = [.ref p] ∧ ((SqL X.K H p ys ∧ ∀ l, H l = none → Q (.ref l) (upd H l (.tup ys))) ∨ (SqT X.K H p ys ∧ Q (.ref p) H))) := by
  intro φ H st ds vs P Q rs r h hP
  unfold rTupleD at h
  split at h
  · obtain ⟨v, rfl, rv⟩ := relDs_one r
    obtain ⟨xs, e, h⟩ := optK_elim h
    obtain ⟨a, vs, rfl, q, rd⟩ := seq_of rs rv e
    rcases q with q | q
    · exact ⟨a, vs, rfl, .inl ⟨q, fun l hl => post_tup (hP _ _ h) rs rd hl⟩⟩
    · exact ⟨a, vs, rfl, .inr ⟨q, post_same (hP _ _ h) rs (rel_tup.mpr ⟨a, vs, rfl, q, rd⟩)⟩⟩
  · exact h.elim
theorem allBl_of {K : PySem.W.Frag} {φ : List Addr} {H : Hp} : ∀ {ds : List D} {vs : List V} {b : Bool}, RelDs K H φ ds vs → allBl ds = some b → ∃ bs : List Bool, vs = bs.map V.bl ∧ bs.all id = b
  | [], vs, b, r, e => by
    obtain rfl := relDs_nil.mp r
    cases e
    exact ⟨[], rfl, rfl⟩
  | .bl c :: ds, vs, b, r, e => by
    obtain ⟨v, w, rfl, h, h2⟩ := relDs_cons.mp r
    obtain rfl := rel_bl.mp h
    unfold allBl at e
    split at e
    · rename_i k q
      cases e
      obtain ⟨bs, rfl, e2⟩ := allBl_of h2 q
      exact ⟨c :: bs, rfl, by rw [List.all_cons, e2]; rfl⟩
    · cases e
  | .non :: ds, vs, b, r, e => by cases e
  | .int _ :: ds, vs, b, r, e => by cases e
  | .str _ :: ds, vs, b, r, e => by cases e
  | .tup _ :: ds, vs, b, r, e => by cases e
  | .ref _ :: ds, vs, b, r, e => by cases e
  | .fz _ :: ds, vs, b, r, e => by cases e
  | .ty _ :: ds, vs, b, r, e => by cases e
theorem im_all : ImpCall X.K rAllD (rAll X.K) := by
  intro φ H st ds vs P Q rs r h hP
  unfold rAllD at h
  split at h
  · obtain ⟨v, rfl, rv⟩ := relDs_one r
    obtain ⟨a, rfl, ha⟩ := rel_ref.mp rv
    obtain ⟨ds, vs, e1, h1, rd⟩ := rs.get ha
    rw [e1] at h
    obtain ⟨b, q, h⟩ := optK_elim (show optK (allBl ds) fun b => P (.bl b) st from h)
    obtain ⟨bs, rfl, e2⟩ := allBl_of rd q
    exact ⟨a, bs, rfl, .of h1, by rw [e2]; exact post_same (hP _ _ h) rs (rel_bl.mpr rfl)⟩
  · exact h.elim
theorem tyx_of {φ : List Addr} {H : Hp} {st : Store} {d : D} {v : V} {t : String} (rs : RelSt X.K H φ st) (r : RelD X.K H φ d v) (e : tyD d = some t) : TyX X.K H v (.type t) := by
  cases d with
  | non => cases e; obtain rfl := rel_non.mp r; exact .base .non
  | bl b => cases e; obtain rfl := rel_bl.mp r; exact .base (.bl b)
  | int b => cases e; obtain rfl := rel_int.mp r; exact .base (.int b)
  | str b => cases e; obtain rfl := rel_str.mp r; exact .base (.str b)
  | ty b => cases e
  | tup ds =>
    cases e
    obtain ⟨a, vs, rfl, h, _⟩ := rel_tup.mp r
    rcases h with (h | ⟨o, h⟩) | ⟨o, its, n, h1, h2, h3, h4, h5⟩
    · exact .base (.tup h)
    · exact .fTuple h
    · exact .kTuple h1 h2
  | ref n =>
    cases e
    obtain ⟨a, rfl, ha⟩ := rel_ref.mp r
    obtain ⟨ds, vs, e1, h1, rd⟩ := rs.get ha
    exact .base (.lst h1)
  | fz ds =>
    cases e
    obtain ⟨a, vs, rfl, h, _⟩ := rel_fz.mp r
    rcases h with ⟨o, h⟩ | ⟨o, its, n, h1, h2, h3⟩
    · exact .base (.frz h)
    · exact .kList h1 h2
theorem im_isi : ImpCall X.K rIsiD (rIsi X.K) := by
  intro φ H st ds vs P Q rs r h hP
  unfold rIsiD at h
  split at h
  · rename_i d n
    obtain ⟨v, w, rfl, rv, rw'⟩ := relDs_two r
    obtain rfl := rel_ty.mp rw'
    obtain ⟨t, e, h⟩ := optK_elim h
    obtain ⟨b, q, h⟩ := optK_elim h
    exact ⟨v, .ty n, .type t, .type n, b, rfl, .ty n, tyx_of rs rv e, kit_ty q, post_same (hP _ _ h) rs (rel_bl.mpr rfl)⟩
  · exact h.elim

/-! subscripts -/
def rIxD : ROp := fun x y st P => match y with
  | .int i => optK (seqD st x) fun xs => optK (atI xs i) fun d => P d st
  | _ => False
theorem atI_rel {K : PySem.W.Frag} {φ : List Addr} {H : Hp} {ds : List D} {vs : List V} {i : Int} {d : D} (r : RelDs K H φ ds vs) (e : atI ds i = some d) : ∃ v, atI vs i = some v ∧ RelD K H φ d v := by
  unfold atI at e ⊢
  rw [r.length]
  cases q : ixN ds.length i with
  | none => rw [q] at e; cases e
  | some j =>
    rw [q] at e
    exact r.get e
abbrev rIxV (K : PySem.W.Frag) : R2 := fun x y H Q => rIxL K x y H Q ∨ rIxT K x y H Q
theorem ix_D : IxR X (rIxV X.K) := ix_list.or ix_tup
theorem im_ix : ImpOp X.K rIxD (rIxV X.K) := by
  intro φ H st x y v u P Q rs rx ry h hP
  unfold rIxD at h
  split at h
  · rename_i i
    obtain rfl := rel_int.mp ry
    obtain ⟨xs, e, h⟩ := optK_elim h
    obtain ⟨a, vs, rfl, q, rd⟩ := seq_of rs rx e
    obtain ⟨d, e2, h⟩ := optK_elim h
    obtain ⟨w, e3, rw'⟩ := atI_rel rd e2
    rcases q with q | q
    · exact .inl ⟨a, vs, i, w, rfl, rfl, q, e3, post_same (hP _ _ h) rs rw'⟩
    · exact .inr ⟨a, vs, i, w, rfl, rfl, q, e3, post_same (hP _ _ h) rs rw'⟩
  · exact h.elim

/-! slices -/
def cutD (xs : List D) (lo hi : Option Int) : List D := (xs.drop (HT.sIx xs.length 0 lo)).take (HT.sIx xs.length xs.length hi - HT.sIx xs.length 0 lo)
theorem RelDs.cut {K : PySem.W.Frag} {φ : List Addr} {H : Hp} {ds : List D} {vs : List V} (r : RelDs K H φ ds vs) (lo hi : Option Int) : RelDs K H φ (cutD ds lo hi) (cutV vs lo hi) := by
  unfold cutD cutV
  rw [r.length]
  exact (r.drop _).take _
def rSlD : RSl := fun x lo hi st P => match x with
  | .tup xs => P (.tup (cutD xs lo hi)) st
  | d => optK (seqD st d) fun xs => P (.ref st.length) (st ++ [cutD xs lo hi])
abbrev rSlV (K : PySem.W.Frag) : V → Option Int → Option Int → Hp → VK → Prop := fun x lo hi H Q => rSlL K x lo hi H Q ∨ rSlA K x lo hi H Q
theorem sl_D : SlR X (rSlV X.K) := sl_list.or sl_tupA
theorem cut_all {xs : List D} {lo hi : Option Int} (h : HT.sIx xs.length 0 lo = 0 ∧ HT.sIx xs.length xs.length hi = xs.length) : cutD xs lo hi = xs := by
  unfold cutD
  rw [h.1, h.2]
  simp
theorem im_sl : ImpSl X.K rSlD (rSlV X.K) := by
  intro φ H st x v lo hi P Q rs rx h hP
  cases x with
  | tup xs =>
    obtain ⟨a, vs, rfl, q, rd⟩ := rel_tup.mp rx
    have h : P (.tup (cutD xs lo hi)) st := h
    refine .inr ⟨a, vs, rfl, q, fun hw => ?_, fun _ p hp => post_tup (hP _ _ h) rs (rd.cut lo hi) hp⟩
    rw [rd.length] at hw
    rw [cut_all hw] at h
    exact post_same (hP _ _ h) rs rx
  | ref n =>
    obtain ⟨a, rfl, ha⟩ := rel_ref.mp rx
    obtain ⟨ds', vs, e1, h1, q⟩ := rs.get ha
    have h : optK st[n]? fun xs => P (.ref st.length) (st ++ [cutD xs lo hi]) := h
    rw [e1] at h
    exact .inl ⟨a, vs, rfl, .of h1, fun p hp => post_lst (hP _ _ h) rs (q.cut lo hi) hp⟩
  | fz ds =>
    obtain ⟨a, vs, rfl, hs, q⟩ := rel_fz.mp rx
    exact .inl ⟨a, vs, rfl, hs.sql, fun p hp => post_lst (hP _ _ h) rs (q.cut lo hi) hp⟩
  | _ => exact h.elim
end
end DL

/-! The data level: statements, targets, loops, comprehensions, defs. -/
namespace DL
open PySem PySem.Spec PyProof.Rows L2 C8

section
variable {X : Cx} {e : Expr} {te : DE} {pos : Pos}
theorem pg_mono {tg : Expr} {t u : TG} (h : PG X tg t) (i : ∀ v σ H Q, u v σ H Q → t v σ H Q) : PG X tg u := ⟨fun pins s σ H v w Q I r q => h.run pins s σ H v w Q I r (i v σ H Q q)⟩
theorem pgs_mono {tg : List Expr} {t u : TGs} (h : PGs X tg t) (i : ∀ v σ H Q, u v σ H Q → t v σ H Q) : PGs X tg u := ⟨fun pins s σ H v w Q I r q => h.run pins s σ H v w Q I r (i v σ H Q q)⟩
theorem ps_mono {st : Stmt} {t u : TS} (h : PS X st t) (i : ∀ D σ H, u D σ H → t D σ H) : PS X st u := ⟨fun pins s σ H D I q => h.run pins s σ H D I (i D σ H q)⟩
theorem pss_mono {st : List Stmt} {t u : TS} (h : PSs X st t) (i : ∀ D σ H, u D σ H → t D σ H) : PSs X st u := ⟨fun pins s σ H D I q => h.run pins s σ H D I (i D σ H q)⟩
theorem pi_mono {tg it : Expr} {t u : TI} (h : PI X tg it t) (i : ∀ σ H R, u σ H R → t σ H R) : PI X tg it u := ⟨fun pins s σ H R I q => h.run pins s σ H R I (i σ H R q)⟩

/-! targets -/
theorem RelE.set {K : PySem.W.Frag} {φ : List Addr} {H : Hp} {σ : L2.St} {env : Env} {i : Nat} {d : D} {v : V} (re : RelE K H φ σ env) (r : RelD K H φ d v) : RelE K H φ (σ.set i (some v)) (env.set i (some d)) := by
  refine ⟨by simp [re.len], fun j d' e => ?_⟩
  by_cases hj : j = i
  · subst hj
    have hl : j < env.length := by
      obtain ⟨h, _⟩ := List.getElem?_eq_some_iff.mp e
      simpa using h
    rw [List.getElem?_set_self hl] at e
    cases e
    exact ⟨v, by rw [List.getElem?_set_self (by rw [← re.len]; exact hl)], r⟩
  · rw [List.getElem?_set_ne (Ne.symm hj)] at e
    obtain ⟨w, h1, h2⟩ := re.at j d' e
    exact ⟨w, by rw [List.getElem?_set_ne (Ne.symm hj)]; exact h1, h2⟩
def dgName (i : Nat) : DG := fun d env st Q => Q (env.set i (some d)) st
theorem d_gname {i : Nat} {x : Str} (hN : X.N.Nodup) (hi : X.N[i]? = some x) (hx : Loc X.env.scope x) (hf : X.fn x = true ∨ X.env.scope.names.lookup x = some .local := by first | exact .inl rfl | exact .inr rfl | assumption) : PG X (.Name x pos) (rdG X.K (dgName i)) := by
  refine pg_mono (pg_name hN hi hx hf) fun v σ H Q h => ?_
  obtain ⟨φ, d, env, st, P, rd, re, rs, h, m⟩ := h
  exact m _ st h φ _ H .refl (re.set rd) rs
def dgNil : DGs := fun ds env st Q => match ds with | [] => Q env st | _ => False
def dgCons (t : DG) (u : DGs) : DGs := fun ds env st Q => match ds with | d :: r => t d env st fun env' st' => u r env' st' Q | [] => False
def dgTup (u : DGs) (n : Nat) : DG := fun d env st Q => match d with | .tup xs => xs.length = n ∧ u xs env st Q | _ => False
theorem d_gnil : PGs X [] (rdGs X.K dgNil) := by
  refine pgs_mono pgs_nil fun v σ H Q h => ?_
  obtain ⟨φ, d, env, st, P, rd, re, rs, h, m⟩ := h
  cases d with
  | nil => exact ⟨relDs_nil.mp rd, m _ st h φ _ H .refl re rs⟩
  | cons _ _ => exact h.elim
theorem d_gcons {es : List Expr} {t : DG} {u : DGs} (h1 : PG X e (rdG X.K t)) (h2 : PGs X es (rdGs X.K u)) (hs : (assignEach (e :: es) X.env).map (·.2) = assign e X.env :: (assignEach es X.env).map (·.2) := by rfl) : PGs X (e :: es) (rdGs X.K (dgCons t u)) := by
  refine pgs_mono (pgs_cons h1 h2 hs) fun v σ H Q h => ?_
  obtain ⟨φ, d, env, st, P, rd, re, rs, h, m⟩ := h
  cases d with
  | nil => exact h.elim
  | cons d ds =>
    obtain ⟨w, r, rfl, rw', rr⟩ := relDs_cons.mp rd
    exact ⟨w, r, rfl, φ, d, env, st, _, rw', re, rs, h, fun env1 st1 h1 φ1 σ1 H1 e1 re1 rs1 => ⟨φ1, ds, env1, st1, P, rr.ext e1, re1, rs1, h1, m.ext e1⟩⟩
theorem d_gtup {es : List Expr} {k n : Nat} {u : DGs} (hc : X.calm = true) (h : PGs X es (rdGs X.K u)) (hn : (assignEach es X.env).length = n := by rfl) (hst : (assignEach es X.env).findIdx? (·.1) = none := by rfl) : PG X (.Tuple es k pos) (rdG X.K (dgTup u n)) := by
  refine pg_mono (pg_tup hc h hn hst) fun v σ H Q h => ?_
  obtain ⟨φ, d, env, st, P, rd, re, rs, h, m⟩ := h
  cases d with
  | tup xs =>
    obtain ⟨a, vs, rfl, q, r⟩ := rel_tup.mp rd
    exact ⟨a, vs, rfl, q, by rw [r.length]; exact h.1, φ, xs, env, st, P, r, re, rs, h.2, m⟩
  | _ => exact h.elim
def rSetD : D → D → D → Store → (Store → Prop) → Prop := fun o i d st Q => match o, i with
  | .ref n, .int k => optK st[n]? fun xs => optK (ixN xs.length k) fun j => Q (st.set n (xs.set j d))
  | _, _ => False
def dgSub (to ti : DE) : DG := fun d env st Q => to env st fun o s1 => ti env s1 fun i s2 => rSetD o i d s2 fun s3 => Q env s3
theorem d_gsub {o i : Expr} {to ti : DE} (ho : PE X o (rdE X.K to)) (hi : PE X i (rdE X.K ti)) (ha : ∀ v, assign (.Subscript o i pos) X.env v = (do
      let ov ← eval o X.env |> holding [v]
      let iv ← holding [v, ov] (eval i X.env)
      standAt pos
      holding [v, ov, iv] (setItem ov iv v)
      release [v, ov, iv] []) := by intro _; rfl) : PG X (.Subscript o i pos) (rdG X.K (dgSub to ti)) := by
  refine pg_mono (pg_sub ho hi set_list ha) fun v σ H Q h => ?_
  obtain ⟨φ, d, env, st, P, rd, re, rs, h, m⟩ := h
  refine ⟨φ, env, st, _, re, rs, h, fun x s1 h1 φ1 v1 H1 e1 rx rs1 => ⟨φ1, env, s1, _, re.ext e1, rs1, h1, fun y s2 h2 φ2 v2 H2 e2 ry rs2 => ?_⟩⟩
  cases x <;> cases y <;> first | exact h2.elim | skip
  rename_i n k
  obtain ⟨a, rfl, ha⟩ := rel_ref.mp (rx.ext e2)
  obtain rfl := rel_int.mp ry
  obtain ⟨ds, vs, q1, q2, q3⟩ := rs2.get ha
  have h2 : optK s2[n]? fun xs => optK (ixN xs.length k) fun j => P env (s2.set n (xs.set j d)) := h2
  rw [q1] at h2
  obtain ⟨j, q4, h2⟩ := optK_elim (show optK (ixN ds.length k) fun j => P env (s2.set n (ds.set j d)) from h2)
  · refine ⟨a, vs, k, j, rfl, rfl, q2, by rw [q3.length]; exact q4, ?_⟩
    exact m _ _ h2 φ2 _ _ ((e1.trans e2).trans (Ext.chg q2)) ((re.ext (e1.trans e2)).ext (Ext.chg q2)) (rs2.chg ha q2 (q3.set j (rd.ext (e1.trans e2))))

/-! statements -/
def dSeq (t u : DS) : DS := fun DD env st => t { DD with nx := fun e s => u DD e s } env st
def dNext : DS := fun DD env st => DD.nx env st
def dNever : DS := fun _ _ _ => False
theorem d_ssnil : PSs X [] (rdS X.K dNext) := pss_mono pss_nil fun D σ H h => by
  obtain ⟨φ, env, st, DD, re, rs, h, m⟩ := h
  exact m.nx _ _ h φ _ H .refl re rs
theorem d_sscons {st : Stmt} {rest : List Stmt} {t u : DS} (h1 : PS X st (rdS X.K t)) (h2 : PSs X rest (rdS X.K u)) : PSs X (st :: rest) (rdS X.K (dSeq t u)) := pss_mono (pss_cons h1 h2) fun D σ H h => by
  obtain ⟨φ, env, st, DD, re, rs, h, m⟩ := h
  exact ⟨φ, env, st, _, re, rs, h, fun env1 s1 n φ1 σ1 H1 e1 re1 rs1 => ⟨φ1, env1, s1, DD, re1, rs1, n, m.ext e1⟩, m.rt, m.bk, m.ct⟩
theorem d_ssone {st : Stmt} {t : DS} (h1 : PS X st (rdS X.K t)) : PSs X [st] (rdS X.K t) := pss_one h1
theorem d_pass : PS X (.Pass pos) (rdS X.K dNext) := ps_mono ps_pass fun D σ H h => by
  obtain ⟨φ, env, st, DD, re, rs, h, m⟩ := h
  exact m.nx _ _ h φ _ H .refl re rs
theorem d_never {st : Stmt} : PS X st (rdS X.K dNever) := ps_mono ps_never fun D σ H h => by
  obtain ⟨φ, env, st, DD, re, rs, h, m⟩ := h
  exact h
def dAsg (te : DE) (g : DG) : DS := fun DD env st => te env st fun d s => g d env s DD.nx
theorem asg_imp {K : PySem.W.Frag} {te : DE} {g : DG} : ∀ D σ H, rdS K (dAsg te g) D σ H → tAsg (rdE K te) (rdG K g) D σ H := by
  intro D σ H h
  obtain ⟨φ, env, st, DD, re, rs, h, m⟩ := h
  exact ⟨φ, env, st, _, re, rs, h, fun d s1 h1 φ1 v H1 e1 rv rs1 => ⟨φ1, d, env, s1, DD.nx, rv, re.ext e1, rs1, h1, m.nx.ext e1⟩⟩
theorem d_asg {tg : Expr} {g : DG} (he : PE X e (rdE X.K te)) (hg : PG X tg (rdG X.K g)) (hs : swapsWithSole [tg] e pos.line X.env = pure false := by rfl) (hw : swappedStores [tg] e X.env = pure none := by rfl)
    (h1 : (assignEach [tg] X.env).map (·.2) = [assign tg X.env] := by rfl) : PS X (.Assign [tg] e pos) (rdS X.K (dAsg te g)) := ps_mono (ps_asg he hg hs hw h1) asg_imp
theorem gname_imp {K : PySem.W.Frag} {i : Nat} : ∀ v σ H Q, rdG K (dgName i) v σ H Q → gName i v σ H Q := by
  intro v σ H Q h
  obtain ⟨φ, d, env, st, P, rd, re, rs, h, m⟩ := h
  exact m _ st h φ _ H .refl (re.set rd) rs
theorem asgN_imp {K : PySem.W.Frag} {te : DE} {i : Nat} : ∀ D σ H, rdS K (dAsg te (dgName i)) D σ H → tAsg (rdE K te) (gName i) D σ H := by
  intro D σ H h
  obtain ⟨φ, env, st, DD, re, rs, h, m⟩ := h
  exact ⟨φ, env, st, _, re, rs, h, fun d s1 h1 φ1 v H1 e1 rv rs1 => gname_imp v σ H1 D.nx ⟨φ1, d, env, s1, DD.nx, rv, re.ext e1, rs1, h1, m.nx.ext e1⟩⟩
theorem d_set {i : Nat} {x : Str} {pos' : Pos} (hN : X.N.Nodup) (hi : X.N[i]? = some x) (hx : Loc X.env.scope x) (he : PE X e (rdE X.K te)) (hs : swapsWith e (some (.Name x pos')) pos.line X.env = pure false := by rfl) (hf : X.fn x = true ∨ X.env.scope.names.lookup x = some .local := by first | exact .inl rfl | exact .inr rfl | assumption) :
    PS X (.Assign [.Name x pos'] e pos) (rdS X.K (dAsg te (dgName i))) := ps_mono (ps_set hN hi hx he hs hf) asgN_imp
/-- a, b = x, y -/
def dPar (i j : Nat) (ta : DA) : DS := fun DD env st => ta env st fun ds s => match ds with | [a, b] => DD.nx ((env.set i (some a)).set j (some b)) s | _ => False
theorem d_par {i j : Nat} {x y : Str} {a b : Expr} {ta : DA} {px py pt : Pos} {kt k2 pt2} (hc : X.calm = true) (hN : X.N.Nodup) (hi : X.N[i]? = some x) (hj : X.N[j]? = some y) (hij : i ≠ j)
    (hx : X.env.scope.names.lookup x = some .local) (hy : X.env.scope.names.lookup y = some .local) (ha : PA X [a, b] (rdA X.K ta))
    (hw : swappedStores [.Tuple [.Name x px, .Name y py] kt pt] (.Tuple [a, b] k2 pt2) X.env = pure (some [x, y]))
    (hs : swapsWithSole [.Tuple [.Name x px, .Name y py] kt pt] (.Tuple [a, b] k2 pt2) pos.line X.env = pure false := by rfl) :
    PS X (.Assign [.Tuple [.Name x px, .Name y py] kt pt] (.Tuple [a, b] k2 pt2) pos) (rdS X.K (dPar i j ta)) := by
  refine ps_mono (ps_par hc hN hi hj hij hx hy ha hw hs) fun D σ H h => ?_
  obtain ⟨φ, env, st, DD, re, rs, h, m⟩ := h
  refine ⟨φ, env, st, _, re, rs, h, fun ds s1 h1 φ1 vs H1 e1 rv rs1 => ?_⟩
  split at h1
  · obtain ⟨v, w, rfl, r1, r2⟩ := relDs_two rv
    exact ⟨v, w, rfl, m.nx _ _ h1 φ1 _ H1 e1 (((re.ext e1).set r1).set r2) rs1⟩
  · exact h1.elim
/-- x op= e -/
def dAug (i : Nat) (r : ROp) (te : DE) : DS := fun DD env st => match env[i]? with
  | some (some x) => te env st fun y s => r x y s fun z s' => DD.nx (env.set i (some z)) s'
  | _ => False
theorem d_aug {i : Nat} {x : Str} {op : Operator} {rd : ROp} {r : TIp} {pos' : Pos} (hN : X.N.Nodup) (hi : X.N[i]? = some x) (hx : Loc X.env.scope x) (he : PE X e (rdE X.K te)) (ho : PIp X op r) (im : ImpOp X.K rd r) (hf : X.fn x = true ∨ X.env.scope.names.lookup x = some .local := by first | exact .inl rfl | exact .inr rfl | assumption) :
    PS X (.AugAssign (.Name x pos') op e pos) (rdS X.K (dAug i rd te)) := by
  refine ps_mono (ps_aug hN hi hx he ho hf) fun D σ H h => ?_
  obtain ⟨φ, env, st, DD, re, rs, h, m⟩ := h
  unfold dAug at h
  split at h
  · rename_i d q
    obtain ⟨v, h1, rv⟩ := re.at i d q
    refine ⟨v, h1, φ, env, st, _, re, rs, h, fun y s1 h1 φ1 w H1 e1 rw' rs1 => ?_⟩
    exact im φ1 H1 s1 d y v w _ _ rs1 (rv.ext e1) rw' h1 fun z s2 h2 φ2 u H2 e2 rz rs2 => m.nx _ _ h2 φ2 _ H2 (e1.trans e2) ((re.ext (e1.trans e2)).set rz) rs2
  · exact h.elim
def rAugAdd : ROp := fun x y st P => match x, y with | .int i, .int j => P (.int (i + j)) st | _, _ => False
theorem im_ipadd : ImpOp X.K rAugAdd (ipI fun i j => i + j) := by
  intro φ H st x y v u P Q rs rx ry h hP
  cases x <;> cases y <;> first | exact h.elim | skip
  obtain rfl := rel_int.mp rx
  obtain rfl := rel_int.mp ry
  exact ⟨_, _, rfl, rfl, post_same (hP _ _ h) rs (rel_int.mpr rfl)⟩
theorem im_ipsub : ImpOp X.K rSubD (ipI fun i j => i - j) := by
  intro φ H st x y v u P Q rs rx ry h hP
  cases x <;> cases y <;> first | exact h.elim | skip
  obtain rfl := rel_int.mp rx
  obtain rfl := rel_int.mp ry
  exact ⟨_, _, rfl, rfl, post_same (hP _ _ h) rs (rel_int.mpr rfl)⟩
def dExpr (te : DE) : DS := fun DD env st => te env st fun _ s => DD.nx env s
theorem d_expr (he : PE X e (rdE X.K te)) (hs : swapsWith e none pos.line X.env = pure false := by rfl) : PS X (.Expr e pos) (rdS X.K (dExpr te)) := ps_mono (ps_expr he hs) fun D σ H h => by
  obtain ⟨φ, env, st, DD, re, rs, h, m⟩ := h
  exact ⟨φ, env, st, _, re, rs, h, fun d s1 h1 φ1 v H1 e1 rv rs1 => m.nx _ _ h1 φ1 _ H1 e1 (re.ext e1) rs1⟩
theorem d_doc {x j pos'} : PS X (.Expr (.Constant (.str x) j pos) pos') (rdS X.K dNext) := ps_mono ps_doc fun D σ H h => by
  obtain ⟨φ, env, st, DD, re, rs, h, m⟩ := h
  exact m.nx _ _ h φ _ H .refl re rs
def dRet (te : DE) : DS := fun DD env st => te env st DD.rt
theorem d_ret (he : PE X e (rdE X.K te)) : PS X (.Return (some e) pos) (rdS X.K (dRet te)) := ps_mono (ps_ret he) fun D σ H h => by
  obtain ⟨φ, env, st, DD, re, rs, h, m⟩ := h
  exact ⟨φ, env, st, _, re, rs, h, m.rt⟩
def dRetN : DS := fun DD _ st => DD.rt .non st
theorem d_retN : PS X (.Return none pos) (rdS X.K dRetN) := ps_mono ps_retN fun D σ H h => by
  obtain ⟨φ, env, st, DD, re, rs, h, m⟩ := h
  exact m.rt _ _ h φ _ H .refl (rel_non.mpr rfl) rs
def dIf (c : DT) (t u : DS) : DS := fun DD env st => c env st fun b s => if b = true then t DD env s else u DD env s
theorem d_if {c : Expr} {a b : List Stmt} {tc : DT} {t u : DS} (hc : PT X c (rdT X.K tc)) (ha : PSs X a (rdS X.K t)) (hb : PSs X b (rdS X.K u)) : PS X (.If c a b pos) (rdS X.K (dIf tc t u)) := ps_mono (ps_if hc ha hb) fun D σ H h => by
  obtain ⟨φ, env, st, DD, re, rs, h, m⟩ := h
  refine ⟨φ, env, st, _, re, rs, h, fun k s1 h1 φ1 H1 e1 rs1 => ?_⟩
  cases k with
  | true => rw [if_pos rfl] at h1 ⊢; exact ⟨φ1, env, s1, DD, re.ext e1, rs1, h1, m.ext e1⟩
  | false => rw [if_neg Bool.false_ne_true] at h1 ⊢; exact ⟨φ1, env, s1, DD, re.ext e1, rs1, h1, m.ext e1⟩

/-! loops -/
def dWhile (c : DT) (b : DS) : DS := fun DD env st => ∃ W : Nat → Env → Store → Prop, (∃ m, W m env st) ∧ ∀ m env st, W m env st →
  c env st fun k s1 => if k = true then b { nx := fun e s => ∃ m', m' < m ∧ W m' e s, rt := DD.rt, bk := DD.nx, ct := fun e s => ∃ m', m' < m ∧ W m' e s } env s1 else DD.nx env s1
theorem d_while {c : Expr} {body : List Stmt} {tc : DT} {tb : DS} (hp : PassesOwn (model X.prog X.w) X.A X.env X.xe) (hc : PT X c (rdT X.K tc)) (hb : PSs X body (rdS X.K tb)) : PS X (.While c body [] pos) (rdS X.K (dWhile tc tb)) := ps_mono (ps_while hp hc hb) fun D σ H h => by
  obtain ⟨φ, env, st, DD, re, rs, ⟨W, ⟨m0, w0⟩, turn⟩, mt⟩ := h
  refine ⟨fun m σ' H' => ∃ φ' env' st', Ext X.K φ H φ' H' ∧ RelE X.K H' φ' σ' env' ∧ RelSt X.K H' φ' st' ∧ W m env' st', ⟨m0, φ, env, st, .refl, re, rs, w0⟩, fun m σ1 H1 hw => ?_⟩
  obtain ⟨φ1, env1, st1, e1, re1, rs1, w1⟩ := hw
  refine ⟨φ1, env1, st1, _, re1, rs1, turn m env1 st1 w1, fun k s2 h2 φ2 H2 e2 rs2 => ?_⟩
  cases k with
  | false => rw [if_neg Bool.false_ne_true] at h2 ⊢; exact mt.nx _ _ h2 φ2 _ H2 (e1.trans e2) (re1.ext e2) rs2
  | true =>
    rw [if_pos rfl] at h2 ⊢
    refine ⟨fun σ' H' => ∃ m', m' < m ∧ ∃ φ' env' st', Ext X.K φ H φ' H' ∧ RelE X.K H' φ' σ' env' ∧ RelSt X.K H' φ' st' ∧ W m' env' st', fun σ' H' ⟨m', lt, q⟩ => ⟨m', lt, q⟩, φ2, env1, s2, _, re1.ext e2, rs2, h2, ?_⟩
    have again : Meet X.K φ2 H2 (fun e s => ∃ m', m' < m ∧ W m' e s) (fun σ' H' => ∃ m', m' < m ∧ ∃ φ' env' st', Ext X.K φ H φ' H' ∧ RelE X.K H' φ' σ' env' ∧ RelSt X.K H' φ' st' ∧ W m' env' st') :=
      fun env3 s3 ⟨m', lt, w3⟩ φ3 σ3 H3 e3 re3 rs3 => ⟨m', lt, φ3, env3, s3, (e1.trans e2).trans e3, re3, rs3, w3⟩
    exact ⟨again, fun d s hd => (mt.rt d s hd).ext (e1.trans e2), mt.nx.ext (e1.trans e2), again⟩
def forBody (g : DG) (b : DS) (DD : DEnds) (env : Env) (src : Src) (s1 : Store) : Prop := ∃ W : Nat → Env → Store → Prop, W 0 env s1 ∧ (∀ i e s, W i e s → src.keep s) ∧
  (∀ i x e s, src.items[i]? = some x → W i e s → g x e s fun e2 s2 => b { nx := W (i + 1), rt := DD.rt, bk := DD.nx, ct := W (i + 1) } e2 s2) ∧ ∀ e s, W src.items.length e s → DD.nx e s
def dFor (wi : DI) (g : DG) (b : DS) : DS := fun DD env st => wi env st fun src s1 => forBody g b DD env src s1
theorem d_for {tg iter : Expr} {body : List Stmt} {wi : DI} {g : DG} {tb : DS} (hp : PassesOwn (model X.prog X.w) X.A X.env X.xe) (hc : X.calm = true) (hi : PI X tg iter (rdI X.K wi)) (hg : PG X tg (rdG X.K g)) (hb : PSs X body (rdS X.K tb))
    (hs : ∀ x, foldedSetIterable iter X.env x = pure x := by intro _; rfl) : PS X (.For tg iter body [] pos) (rdS X.K (dFor wi g tb)) := ps_mono (ps_for hp hc hi hg hb hs) fun D σ H h => by
  obtain ⟨φ, env, st, DD, re, rs, h, mt⟩ := h
  refine ⟨φ, env, st, _, re, rs, h, fun src s1 h1 φ1 H1 J e1 rs1 wk => ?_⟩
  obtain ⟨W, w0, hk, turn, fin⟩ := h1
  refine ⟨fun i m σ' H' => m = src.items.length - i ∧ i ≤ src.items.length ∧ ∃ φ' env' st', Ext X.K φ1 H1 φ' H' ∧ RelE X.K H' φ' σ' env' ∧ RelSt X.K H' φ' st' ∧ W i env' st', ⟨_, rfl, Nat.zero_le _, φ1, env, s1, .refl, re.ext e1, rs1, w0⟩, fun i m σ2 H2 hw => ?_⟩
  obtain ⟨rfl, hle, φ2, env2, st2, e2, re2, rs2, w2⟩ := hw
  by_cases hlt : i < src.items.length
  · have hx := List.getElem?_eq_getElem hlt
    obtain ⟨go, yld⟩ := wk.go i _ φ2 H2 st2 hx e2 rs2 (hk _ _ _ w2)
    refine .inr ⟨go, fun σ' H' => ∃ φ' env' st', Ext X.K φ1 H1 φ' H' ∧ RelE X.K H' φ' σ' env' ∧ RelSt X.K H' φ' st' ∧ W (i + 1) env' st', fun σ' H' q => ⟨_, by omega, rfl, hlt, q⟩, fun v H3 y => ?_⟩
    obtain ⟨e3, rs3, rx⟩ := yld v H3 y
    refine ⟨φ2, _, env2, st2, _, rx, re2.ext e3, rs3, turn i _ env2 st2 hx w2, fun env4 s4 h4 φ4 σ4 H4 e4 re4 rs4 => ⟨φ4, env4, s4, _, re4, rs4, h4, ?_⟩⟩
    have again : Meet X.K φ4 H4 (W (i + 1)) (fun σ' H' => ∃ φ' env' st', Ext X.K φ1 H1 φ' H' ∧ RelE X.K H' φ' σ' env' ∧ RelSt X.K H' φ' st' ∧ W (i + 1) env' st') :=
      fun env5 s5 w5 φ5 σ5 H5 e5 re5 rs5 => ⟨φ5, env5, s5, ((e2.trans e3).trans e4).trans e5, re5, rs5, w5⟩
    have e14 : Ext X.K φ H φ4 H4 := e1.trans ((e2.trans e3).trans e4)
    exact ⟨again, fun d s hd => (mt.rt d s hd).ext e14, mt.nx.ext e14, again⟩
  · have : i = src.items.length := by omega
    subst this
    exact .inl ⟨wk.stop φ2 H2 st2 e2 rs2 (hk _ _ _ w2), mt.nx _ _ (fin _ _ w2) φ2 _ H2 (e1.trans e2) re2 rs2⟩

/-! what is walked -/
def keepD : D → List D → Store → Prop
  | .ref n, xs => fun s => s[n]? = some xs
  | _, _ => fun _ => True
def iSeq (te : DE) : DI := fun env st P => te env st fun d s => optK (seqD s d) fun xs => P ⟨xs, keepD d xs⟩ s
abbrev iSeqV (K : PySem.W.Frag) (t : TE) : TI := fun σ H R => t σ H fun x H1 => ∃ a, x = .ref a ∧ (((∃ xs, SqL K H1 a xs) ∧ R (Itl K a) H1) ∨ ((∃ xs, SqT K H1 a xs) ∧ R (Itt K a) H1))
theorem pi_seq {tg l : Expr} {tl : TE} (hl : PE X l tl) : PI X tg l (iSeqV X.K tl) := by
  refine ⟨fun pins s σ H R I h => ?_⟩
  refine thn (hl.run pins s σ H _ I h) fun v s1 ⟨x, H1, I1, r1, q1⟩ => ?_
  obtain ⟨a, rfl, q⟩ := q1
  obtain rfl : v = Value.ref a := r1
  rcases q with ⟨⟨xs, hq⟩, q⟩ | ⟨⟨xs, hq⟩, q⟩
  · obtain ⟨its, rv, p, hz⟩ := I1.list hq
    refine wpAny_pyIter_list p.isList ?_
    refine ⟨s1.heap.objs.size, [s1.heap.objs.size], _, _, H1, rfl, I1.kept (t' := s1.toks) fun b o e => Heap.get?_push_of_some _ e, turn_list a _, ⟨_, Heap.get?_push_size _ rfl, rfl, rfl⟩, fun b hb => ?_, q⟩
    obtain rfl : b = s1.heap.objs.size := by simpa using hb
    exact I1.fpOk (Nat.le_refl _) (I1.hok.fresh (Nat.le_refl _))
  · obtain ⟨its, rv, p, hz⟩ := I1.tuple hq
    refine wpAny_pyIter_tuple (show s1.heap.IsTuple a its.toArray from p) ?_
    refine ⟨s1.heap.objs.size, [s1.heap.objs.size], _, _, H1, rfl, I1.kept (t' := s1.toks) fun b o e => Heap.get?_push_of_some _ e, turn_tuple a _, ⟨_, Heap.get?_push_size _ rfl, rfl, rfl⟩, fun b hb => ?_, q⟩
    obtain rfl : b = s1.heap.objs.size := by simpa using hb
    exact I1.fpOk (Nat.le_refl _) (I1.hok.fresh (Nat.le_refl _))
theorem walks_tup {K : PySem.W.Frag} {φ : List Addr} {H : Hp} {a : Addr} {vs : List V} {ds : List D} {k : Store → Prop} (hs : SqT K H a vs) (r : RelDs K H φ ds vs) : Walks K φ H ⟨ds, k⟩ (Itt K a) := by
  refine ⟨fun i x φ' H' st e ex rs _ => ?_, fun φ' H' st ex rs _ => ⟨vs, ex.tup _ _ hs, Nat.le_of_eq r.length⟩⟩
  obtain ⟨v, h1, h2⟩ := r.get e
  refine ⟨⟨vs, v, ex.tup _ _ hs, h1⟩, fun w H2 y => ?_⟩
  obtain ⟨rfl, y⟩ := y
  have := y vs (ex.tup _ _ hs)
  rw [h1] at this
  cases this
  exact ⟨.refl, rs, h2.ext ex⟩
theorem walks_fz {K : PySem.W.Frag} {φ : List Addr} {H : Hp} {a : Addr} {vs : List V} {ds : List D} {k : Store → Prop} (hs : SqF K H a vs) (r : RelDs K H φ ds vs) : Walks K φ H ⟨ds, k⟩ (Itl K a) := by
  refine ⟨fun i x φ' H' st e ex rs _ => ?_, fun φ' H' st ex rs _ => ⟨vs, (ex.frz _ _ hs).sql, Nat.le_of_eq r.length⟩⟩
  obtain ⟨v, h1, h2⟩ := r.get e
  refine ⟨⟨vs, v, (ex.frz _ _ hs).sql, h1⟩, fun w H2 y => ?_⟩
  obtain ⟨rfl, y⟩ := y
  have := y vs (ex.frz _ _ hs).sql
  rw [h1] at this
  cases this
  exact ⟨.refl, rs, h2.ext ex⟩
theorem walks_lst {K : PySem.W.Frag} {φ : List Addr} {H : Hp} {n : Nat} {a : Addr} {ds : List D} (ha : φ[n]? = some a) : Walks K φ H ⟨ds, fun s => s[n]? = some ds⟩ (Itl K a) := by
  have key : ∀ φ' H' st, Ext K φ H φ' H' → RelSt K H' φ' st → st[n]? = some ds → ∃ vs, H' a = some (.lst vs) ∧ RelDs K H' φ' ds vs := fun φ' H' st ex rs k => by
    obtain ⟨es, vs, q1, q2, q3⟩ := rs.get (get_pre ex.pre ha)
    rw [k] at q1; cases q1
    exact ⟨vs, q2, q3⟩
  refine ⟨fun i x φ' H' st e ex rs k => ?_, fun φ' H' st ex rs k => ?_⟩
  · obtain ⟨vs, q2, q3⟩ := key φ' H' st ex rs k
    obtain ⟨v, h1, h2⟩ := q3.get e
    refine ⟨⟨vs, v, .of q2, h1⟩, fun w H2 y => ?_⟩
    obtain ⟨rfl, y⟩ := y
    have := y vs (.of q2)
    rw [h1] at this
    cases this
    exact ⟨.refl, rs, h2⟩
  · obtain ⟨vs, q2, q3⟩ := key φ' H' st ex rs k
    exact ⟨vs, .of q2, Nat.le_of_eq q3.length⟩
theorem d_iseq {tg l : Expr} {tl : DE} (hl : PE X l (rdE X.K tl)) : PI X tg l (rdI X.K (iSeq tl)) := pi_mono (pi_seq hl) fun σ H R h => by
  obtain ⟨φ, env, st, P, re, rs, h, hP⟩ := h
  refine ⟨φ, env, st, _, re, rs, h, fun d s1 h1 φ1 v H1 e1 rv rs1 => ?_⟩
  cases d with
  | tup xs =>
    obtain ⟨a, vs, rfl, q, r⟩ := rel_tup.mp rv
    exact ⟨a, rfl, .inr ⟨⟨vs, q⟩, hP _ _ h1 φ1 H1 _ e1 rs1 (walks_tup q r)⟩⟩
  | fz xs =>
    obtain ⟨a, vs, rfl, q, r⟩ := rel_fz.mp rv
    exact ⟨a, rfl, .inl ⟨⟨vs, q.sql⟩, hP _ _ h1 φ1 H1 _ e1 rs1 (walks_fz q r)⟩⟩
  | ref n =>
    obtain ⟨a, rfl, ha⟩ := rel_ref.mp rv
    obtain ⟨ds, vs, q1, q2, q3⟩ := rs1.get ha
    have h1 : optK s1[n]? fun xs => P ⟨xs, keepD (.ref n) xs⟩ s1 := h1
    rw [q1] at h1
    exact ⟨a, rfl, .inl ⟨⟨vs, .of q2⟩, hP _ _ h1 φ1 H1 _ e1 rs1 (walks_lst ha)⟩⟩
  | _ => exact h1.elim
def intsFrom (lo : Int) (n : Nat) : List D := (List.range n).map fun k => .int (lo + (k : Nat))
theorem intsFrom_get {lo : Int} {n i : Nat} {x : D} (e : (intsFrom lo n)[i]? = some x) : i < n ∧ x = .int (lo + (i : Nat)) := by
  unfold intsFrom at e
  rw [List.getElem?_map] at e
  by_cases h : i < n
  · rw [List.getElem?_range h] at e
    cases e
    exact ⟨h, rfl⟩
  · rw [List.getElem?_eq_none (by simpa using h)] at e
    cases e
theorem intsFrom_len {lo : Int} {n : Nat} : (intsFrom lo n).length = n := by simp [intsFrom]
theorem walks_rng {K : PySem.W.Frag} {φ : List Addr} {H : Hp} {lo : Int} {n : Nat} : Walks K φ H ⟨intsFrom lo n, fun _ => True⟩ (Itr lo n) := by
  refine ⟨fun i x φ' H' st e ex rs _ => ?_, fun φ' H' st ex rs _ => ?_⟩
  · obtain ⟨h1, rfl⟩ := intsFrom_get e
    refine ⟨h1, fun v H2 y => ?_⟩
    obtain ⟨rfl, rfl⟩ := y
    exact ⟨.refl, rs, rel_int.mpr rfl⟩
  · show n ≤ (intsFrom lo n).length
    rw [intsFrom_len]
    exact Nat.le_refl _
def iRng1D (ta : DA) : DI := fun env st P => ta env st fun ds s => match ds with | [.int j] => (-1000000 ≤ j ∧ j ≤ 1000000) ∧ P ⟨intsFrom 0 j.toNat, fun _ => True⟩ s | _ => False
def iRng2D (ta : DA) : DI := fun env st P => ta env st fun ds s => match ds with | [.int i, .int j] => (-1000000 ≤ i ∧ i ≤ 1000000 ∧ -1000000 ≤ j ∧ j ≤ 1000000) ∧ P ⟨intsFrom i (j - i).toNat, fun _ => True⟩ s | _ => False
theorem d_irng1 {tg a : Expr} {ta : DA} {p : Pos} (hg : Gl X "range") (hm : X.mg "range" = none) (ha : PA X [a] (rdA X.K ta)) (hs : starEach [a] X.env = [(false, eval a X.env)] := by rfl) : PI X tg (.Call (.Name "range" p) [a] [] pos) (rdI X.K (iRng1D ta)) := pi_mono (pi_range1 hg hm ha hs) fun σ H R h => by
  obtain ⟨φ, env, st, P, re, rs, h, hP⟩ := h
  refine ⟨φ, env, st, _, re, rs, h, fun ds s1 h1 φ1 vs H1 e1 rv rs1 => ?_⟩
  split at h1
  · rename_i j
    obtain ⟨v, rfl, r1⟩ := relDs_one rv
    obtain rfl := rel_int.mp r1
    exact ⟨j, rfl, by omega, by omega, hP _ _ h1.2 φ1 H1 _ e1 rs1 walks_rng⟩
  · exact h1.elim
theorem d_irng2 {tg a b : Expr} {ta : DA} {p : Pos} (hg : Gl X "range") (hm : X.mg "range" = none) (ha : PA X [a, b] (rdA X.K ta)) (hs : starEach [a, b] X.env = [(false, eval a X.env), (false, eval b X.env)] := by rfl) (hs2 : starEach [b] X.env = [(false, eval b X.env)] := by rfl) : PI X tg (.Call (.Name "range" p) [a, b] [] pos) (rdI X.K (iRng2D ta)) := pi_mono (pi_range2 hg hm ha hs hs2) fun σ H R h => by
  obtain ⟨φ, env, st, P, re, rs, h, hP⟩ := h
  refine ⟨φ, env, st, _, re, rs, h, fun ds s1 h1 φ1 vs H1 e1 rv rs1 => ?_⟩
  split at h1
  · rename_i i j
    obtain ⟨v, w, rfl, r1, r2⟩ := relDs_two rv
    obtain rfl := rel_int.mp r1
    obtain rfl := rel_int.mp r2
    exact ⟨i, j, rfl, by omega, hP _ _ h1.2 φ1 H1 _ e1 rs1 walks_rng⟩
  · exact h1.elim
end
end DL

/-! The data level: zip, comprehensions, methods of lists, reversed tuples, defs. -/
namespace DL
open PySem PySem.Spec PyProof.Rows L2 C8

section
variable {X : Cx} {e : Expr} {te : DE} {pos : Pos}
/-! zip -/
def zipD : List D → List D → List D
  | a :: as, b :: bs => .tup [a, b] :: zipD as bs
  | _, _ => []
theorem zipD_len : ∀ (as bs : List D), (zipD as bs).length = min as.length bs.length
  | [], _ => by simp [zipD]
  | _ :: _, [] => by simp [zipD]
  | a :: as, b :: bs => by simp [zipD, zipD_len as bs]
theorem zipD_get : ∀ {as bs : List D} {i : Nat} {x : D}, (zipD as bs)[i]? = some x → ∃ a b, as[i]? = some a ∧ bs[i]? = some b ∧ x = .tup [a, b]
  | [], _, i, x, e => by simp [zipD] at e
  | _ :: _, [], i, x, e => by simp [zipD] at e
  | a :: as, b :: bs, 0, x, e => by simp [zipD] at e; exact ⟨a, b, rfl, rfl, e.symm⟩
  | a :: as, b :: bs, i + 1, x, e => by
    obtain ⟨a', b', h1, h2, h3⟩ := zipD_get (as := as) (bs := bs) (i := i) (by simpa [zipD] using e)
    exact ⟨a', b', by simpa using h1, by simpa using h2, h3⟩
def iZipD (ta : DA) : DI := fun env st P => ta env st fun ds s => match ds with
  | [.ref n, .ref m] => optK s[n]? fun xs => optK s[m]? fun ys => P ⟨zipD xs ys, fun s => s[n]? = some xs ∧ s[m]? = some ys⟩ s
  | [.tup xs, .tup ys] => P ⟨zipD xs ys, fun _ => True⟩ s
  | _ => False
theorem post_pair {K : PySem.W.Frag} {φ : List Addr} {H : Hp} {st : Store} {a b : D} {v w : V} {T : Addr} (rs : RelSt K H φ st) (ra : RelD K H φ a v) (rb : RelD K H φ b w) (hT : H T = none) :
    Ext K φ H φ (upd H T (.tup [v, w])) ∧ RelSt K (upd H T (.tup [v, w])) φ st ∧ RelD K (upd H T (.tup [v, w])) φ (.tup [a, b]) (.ref T) :=
  ⟨Ext.new0 hT, rs.new0 hT, rel_tup.mpr ⟨T, _, rfl, .inl (.inl upd_same), (RelDs.cons ra (.one rb)).ext (Ext.new0 hT)⟩⟩
theorem d_izip {elts : List Expr} {kk : Nat} {tpos p : Pos} {a b : Expr} {ta : DA} (hg : Gl X "zip") (hm : X.mg "zip" = none) (ha : PA X [a, b] (rdA X.K ta)) (hs : starEach [a, b] X.env = (false, eval a X.env) :: starEach [b] X.env := by rfl) (hpl : (backTo pos (starEach [b] X.env)).any (·.1) = false := by rfl) :
    PI X (.Tuple elts kk tpos) (.Call (.Name "zip" p) [a, b] [] pos) (rdI X.K (iZipD ta)) := pi_mono (RZ.pi_zipA hg hm ha hs hpl) fun σ H R h => by
  obtain ⟨φ, env, st, P, re, rs, h, hP⟩ := h
  refine ⟨φ, env, st, _, re, rs, h, fun ds s1 h1 φ1 vs H1 e1 rv rs1 => ?_⟩
  split at h1
  · rename_i n m
    obtain ⟨v, w, rfl, r1, r2⟩ := relDs_two rv
    obtain ⟨a, rfl, ha⟩ := rel_ref.mp r1
    obtain ⟨b, rfl, hb⟩ := rel_ref.mp r2
    obtain ⟨xs, vs, p1, p2, p3⟩ := rs1.get ha
    obtain ⟨ys, ws, q1, q2, q3⟩ := rs1.get hb
    rw [p1, q1] at h1
    refine ⟨a, b, vs, ws, rfl, .inl ⟨.of p2, .of q2, hP _ _ h1 φ1 H1 _ e1 rs1 ?_⟩⟩
    have key : ∀ φ' H' st, Ext X.K φ1 H1 φ' H' → RelSt X.K H' φ' st → (st[n]? = some xs ∧ st[m]? = some ys) → ∃ vs ws, H' a = some (.lst vs) ∧ RelDs X.K H' φ' xs vs ∧ H' b = some (.lst ws) ∧ RelDs X.K H' φ' ys ws := fun φ' H' st ex rs ⟨k1, k2⟩ => by
      obtain ⟨es, vs, z1, z2, z3⟩ := rs.get (get_pre ex.pre ha)
      rw [k1] at z1; cases z1
      obtain ⟨es, ws, y1, y2, y3⟩ := rs.get (get_pre ex.pre hb)
      rw [k2] at y1; cases y1
      exact ⟨vs, ws, z2, z3, y2, y3⟩
    refine ⟨fun i x φ' H' st e ex rs k => ?_, fun φ' H' st ex rs k => ?_⟩
    · obtain ⟨vs, ws, z2, z3, y2, y3⟩ := key φ' H' st ex rs k
      obtain ⟨d1, d2, g1, g2, rfl⟩ := zipD_get e
      obtain ⟨v1, i1, j1⟩ := z3.get g1
      obtain ⟨v2, i2, j2⟩ := y3.get g2
      refine ⟨⟨vs, ws, v1, v2, .of z2, .of y2, i1, i2⟩, fun w H2 y => ?_⟩
      obtain ⟨T, u1, u2, rfl, hT, rfl, f1, f2⟩ := y
      have t1 := f1 vs (.of z2)
      have t2 := f2 ws (.of y2)
      rw [i1] at t1; cases t1
      rw [i2] at t2; cases t2
      exact post_pair rs j1 j2 hT
    · obtain ⟨vs, ws, z2, z3, y2, y3⟩ := key φ' H' st ex rs k
      refine ⟨vs, ws, .of z2, .of y2, ?_⟩
      show vs.length ≤ (zipD xs ys).length ∨ ws.length ≤ (zipD xs ys).length
      rw [zipD_len, z3.length, y3.length]
      omega
  · rename_i xs ys
    obtain ⟨v, w, rfl, r1, r2⟩ := relDs_two rv
    obtain ⟨a, vs, rfl, p2, p3⟩ := rel_tup.mp r1
    obtain ⟨b, ws, rfl, q2, q3⟩ := rel_tup.mp r2
    refine ⟨a, b, vs, ws, rfl, .inr ⟨p2, q2, hP _ _ h1 φ1 H1 _ e1 rs1 ?_⟩⟩
    refine ⟨fun i x φ' H' st e ex rs k => ?_, fun φ' H' st ex rs k => ?_⟩
    · obtain ⟨d1, d2, g1, g2, rfl⟩ := zipD_get e
      obtain ⟨v1, i1, j1⟩ := (p3.ext ex).get g1
      obtain ⟨v2, i2, j2⟩ := (q3.ext ex).get g2
      refine ⟨⟨vs, ws, v1, v2, ex.tup _ _ p2, ex.tup _ _ q2, i1, i2⟩, fun w H2 y => ?_⟩
      obtain ⟨T, u1, u2, rfl, hT, rfl, f1, f2⟩ := y
      have t1 := f1 vs (ex.tup _ _ p2)
      have t2 := f2 ws (ex.tup _ _ q2)
      rw [i1] at t1; cases t1
      rw [i2] at t2; cases t2
      exact post_pair rs j1 j2 hT
    · refine ⟨vs, ws, ex.tup _ _ p2, ex.tup _ _ q2, ?_⟩
      show vs.length ≤ (zipD xs ys).length ∨ ws.length ≤ (zipD xs ys).length
      rw [zipD_len, p3.length, q3.length]
      omega
  · exact h1.elim
/-! range by a step -/
def intsDown (hi : Int) (n : Nat) : List D := (List.range n).map fun k => .int (hi + (k : Nat) * (-1))
def iRng3D (ta : DA) : DI := fun env st P => ta env st fun ds s => match ds with
  | [.int i, .int j, .int c] => (c = -1 ∧ -1000000 ≤ i ∧ i ≤ 1000000 ∧ -1000000 ≤ j ∧ j ≤ 1000000) ∧ P ⟨intsDown i (i - j).toNat, fun _ => True⟩ s
  | _ => False
theorem d_irng3 {tg a b c : Expr} {ta : DA} {p : Pos} (hg : Gl X "range") (hm : X.mg "range" = none) (ha : PA X [a, b, c] (rdA X.K ta)) (h : PI X tg (.Call (.Name "range" p) [a, b, c] [] pos) (iRng3 (rdA X.K ta))) :
    PI X tg (.Call (.Name "range" p) [a, b, c] [] pos) (rdI X.K (iRng3D ta)) := pi_mono h fun σ H R h => by
  obtain ⟨φ, env, st, P, re, rs, h, hP⟩ := h
  refine ⟨φ, env, st, _, re, rs, h, fun ds s1 h1 φ1 vs H1 e1 rv rs1 => ?_⟩
  split at h1
  · rename_i i j c
    obtain ⟨v, r2, q1, t1, t2⟩ := relDs_cons.mp rv
    obtain ⟨w, u, q2, t3, t4⟩ := relDs_two t2
    subst q2 q1
    obtain rfl := rel_int.mp t1
    obtain rfl := rel_int.mp t3
    obtain rfl := rel_int.mp t4
    obtain ⟨⟨rfl, k1, k2, k3, k4⟩, h1⟩ := h1
    refine ⟨i, j, -1, (i - j).toNat, rfl, RgC.neg (by omega) (by omega) (by omega) (by omega), hP _ _ h1 φ1 H1 _ e1 rs1 ?_⟩
    refine ⟨fun m x φ' H' st e ex rs _ => ?_, fun φ' H' st ex rs _ => ?_⟩
    · have e' : ((List.range (i - j).toNat).map fun k => D.int (i + (k : Nat) * (-1)))[m]? = some x := e
      rw [List.getElem?_map] at e'
      by_cases hm : m < (i - j).toNat
      · rw [List.getElem?_range hm] at e'
        cases e'
        refine ⟨hm, fun v H2 y => ?_⟩
        obtain ⟨rfl, rfl⟩ := y
        exact ⟨.refl, rs, rel_int.mpr rfl⟩
      · rw [List.getElem?_eq_none (by simpa using hm)] at e'
        cases e'
    · show (i - j).toNat ≤ (intsDown i (i - j).toNat).length
      simp [intsDown]
  · exact h1.elim

/-! comprehensions -/
def ctgt : List Nat → D → Env → Option Env
  | [i], d, env => some (env.set i (some d))
  | [i, j], .tup [a, b], env => some ((env.set i (some a)).set j (some b))
  | _, _, _ => none
def lcBody (own : List Nat) (tt : DT) (te : DE) (env : Env) (P : KD) (src : Src) (s1 : Store) : Prop := ∃ W : Nat → Store → Prop, W 0 (s1 ++ [[]]) ∧ (∀ i s, W i s → src.keep s) ∧
  (∀ i x s, src.items[i]? = some x → W i s → match ctgt own x env with
    | none => False
    | some e2 => tt e2 s fun k s3 => if k = true then te e2 s3 fun y s4 => ∃ acc, s4[s1.length]? = some acc ∧ acc.length < 10000 ∧ W (i + 1) (s4.set s1.length (acc ++ [y])) else W (i + 1) s3) ∧
  ∀ s, W src.items.length s → P (.ref s1.length) s
def dLc (own : List Nat) (wi : DI) (tt : DT) (te : DE) : DE := fun env st P => wi env st fun src s1 => lcBody own tt te env P src s1
def dYes : DT := fun _ st P => P true st
theorem d_tsnil : PTs X [] (rdT X.K dYes) := ⟨fun pins s σ H Q I h => by
  obtain ⟨φ, env, st, P, re, rs, h, hP⟩ := h
  exact pts_nil.run pins s σ H Q I (hP true st h φ H .refl rs)⟩
theorem d_tsone {c : Expr} {t : DT} (h : PT X c (rdT X.K t)) : PTs X [c] (rdT X.K t) := pts_one h
/-- the slots' target -/
def gOwn (K : PySem.W.Frag) : List Nat → TG
  | [i] => gName i
  | [i, j] => gTup K 2 (gCons (gName i) (gCons (gName j) gNil))
  | _ => fun _ _ _ _ => False
theorem set_set_ne {α : Type} (l : List α) {i j : Nat} (h : i ≠ j) (a b : α) : (l.set i a).set j b = (l.set j b).set i a := List.set_comm _ _ h
theorem lc_imp {K : PySem.W.Frag} {own : List Nat} {wi : DI} {tt : DT} {te : DE} (hn : own.Nodup) : ∀ σ H Q, rdE K (dLc own wi tt te) σ H Q → tLc (rdI K wi) (gOwn K own) (rdT K tt) (rdE K te) own σ H Q := by
  intro σ H Q h
  obtain ⟨φ, env, st, P, re, rs, h, hP⟩ := h
  refine ⟨φ, env, st, _, re, rs, h, fun src s1 h1 φ1 H1 J e1 rs1 wk A hA => ?_⟩
  obtain ⟨W, w0, hk, turn, fin⟩ := h1
  have ex0 : Ext K φ1 H1 (φ1 ++ [A]) (upd H1 A (.lst [])) := Ext.new hA [A]
  have aAt : ∀ {φ'}, (φ1 ++ [A]) <+: φ' → φ'[s1.length]? = some A := fun hp => get_pre hp (by rw [← rs1.len, List.getElem?_append_right (Nat.le_refl _)]; simp)
  refine ⟨fun i m H' => m = src.items.length - i ∧ i ≤ src.items.length ∧ ∃ φ' st', Ext K (φ1 ++ [A]) (upd H1 A (.lst [])) φ' H' ∧ RelSt K H' φ' st' ∧ W i st', ⟨_, rfl, Nat.zero_le _, _, _, .refl, rs1.push hA .nil, w0⟩, fun i m H2 hw => ?_⟩
  obtain ⟨rfl, hle, φ2, st2, e2, rs2, w2⟩ := hw
  have e12 : Ext K φ1 H1 φ2 H2 := ex0.trans e2
  by_cases hlt : i < src.items.length
  · have hx := List.getElem?_eq_getElem hlt
    obtain ⟨go, yld⟩ := wk.go i _ φ2 H2 st2 hx e12 rs2 (hk _ _ w2)
    refine .inr ⟨go, fun H' => ∃ φ' st', Ext K (φ1 ++ [A]) (upd H1 A (.lst [])) φ' H' ∧ RelSt K H' φ' st' ∧ W (i + 1) st', fun H' q => ⟨_, by omega, rfl, hlt, q⟩, fun v H3 y => ?_⟩
    obtain ⟨e3, rs3, rx⟩ := yld v H3 y
    have tn := turn i _ st2 hx w2
    have re3 : RelE K H3 φ2 σ env := (re.ext e1).ext (e12.trans e3)
    have rest : ∀ σ2 e2', RelE K H3 φ2 σ2 e2' → (tt e2' st2 fun k s3 => if k = true then te e2' s3 fun y s4 => ∃ acc, s4[s1.length]? = some acc ∧ acc.length < 10000 ∧ W (i + 1) (s4.set s1.length (acc ++ [y])) else W (i + 1) s3) →
        rdT K tt σ2 H3 fun b H3 => if b = true then rdE K te σ2 H3 fun y H4 => ∃ acc, H4 A = some (.lst acc) ∧ acc.length < sizeLine ∧ (fun H' => ∃ φ' st', Ext K (φ1 ++ [A]) (upd H1 A (.lst [])) φ' H' ∧ RelSt K H' φ' st' ∧ W (i + 1) st') (upd H4 A (.lst (acc ++ [y]))) else (fun H' => ∃ φ' st', Ext K (φ1 ++ [A]) (upd H1 A (.lst [])) φ' H' ∧ RelSt K H' φ' st' ∧ W (i + 1) st') H3 := fun σ2 e2' r2 h2 => by
      refine ⟨φ2, e2', st2, _, r2, rs3, h2, fun k s5 h5 φ5 H5 e5 rs5 => ?_⟩
      cases k with
      | false =>
        rw [if_neg Bool.false_ne_true] at h5 ⊢
        exact ⟨φ5, s5, (e2.trans e3).trans e5, rs5, h5⟩
      | true =>
        rw [if_pos rfl] at h5 ⊢
        refine ⟨φ5, e2', s5, _, r2.ext e5, rs5, h5, fun y s6 h6 φ6 w H6 e6 ry rs6 => ?_⟩
        obtain ⟨acc, q1, q2, q3⟩ := h6
        have eA : Ext K (φ1 ++ [A]) (upd H1 A (.lst [])) φ6 H6 := ((e2.trans e3).trans e5).trans e6
        have hA6 := aAt eA.pre
        obtain ⟨ds, vs, g1, g2, g3⟩ := rs6.get hA6
        rw [q1] at g1; cases g1
        refine ⟨vs, g2, by rw [g3.length, sizeLine_eq]; omega, φ6, _, eA.trans (Ext.chg g2), rs6.chg hA6 g2 (g3.append (.one ry)), q3⟩
    match own, hn, tn with
    | [j], _, tn =>
      have r2 : RelE K H3 φ2 ((wipe σ [j]).set j (some v)) (env.set j (some src.items[i])) := by
        have : (wipe σ [j]).set j (some v) = σ.set j (some v) := by simp [wipe, List.set_set]
        rw [this]
        exact re3.set rx
      exact ⟨by simp [wipe, List.set_set], rest _ _ r2 tn⟩
    | [j, l], hn, tn =>
      have hjl : j ≠ l := by simpa using hn
      cases hxi : src.items[i] with
      | tup ab =>
        rw [hxi] at tn rx
        match ab, tn, rx with
        | [a, b], tn, rx =>
          obtain ⟨p, vs, rfl, hp, rd⟩ := rel_tup.mp rx
          obtain ⟨va, vb, rfl, ra, rb⟩ := relDs_two rd
          have ws : ((wipe σ [j, l]).set j (some va)).set l (some vb) = (σ.set j (some va)).set l (some vb) := by
            simp only [wipe]
            rw [List.set_set, List.set_comm _ _ (Ne.symm hjl), List.set_set]
          refine ⟨p, [va, vb], rfl, hp, rfl, va, [vb], rfl, vb, [], rfl, rfl, ?_, ?_⟩
          · rw [ws]
            simp only [wipe]
            rw [List.set_set, List.set_comm _ _ hjl, List.set_set]
          · refine rest _ _ ?_ tn
            rw [ws]
            exact (re3.set ra).set rb
        | [], tn, _ => exact tn.elim
        | [_], tn, _ => exact tn.elim
        | _ :: _ :: _ :: _, tn, _ => exact tn.elim
      | _ => rw [hxi] at tn; exact tn.elim
    | [], _, tn => exact tn.elim
    | _ :: _ :: _ :: _, _, tn => exact tn.elim
  · have : i = src.items.length := by omega
    subst this
    exact .inl ⟨wk.stop φ2 H2 st2 e12 rs2 (hk _ _ w2), hP _ _ (fin _ w2) φ2 _ H2 (e1.trans e12) (rel_ref.mpr ⟨A, rfl, aAt e2.pre⟩) rs2⟩

/-- a comprehension, as a value -/
theorem d_lc1 {elt tg iter : Expr} {ifs : List Expr} {scope : Scope} {x : Str} {i : Nat} {wi : DI} {tt : DT} {te : DE} (hc : X.calm = true) (hN : X.N.Nodup) (hi : PI X tg iter (rdI X.K wi)) (ok : BlkOk X.N X.env.scope scope [(x, i)])
    (hg : ∀ (s : Shared) (H : Hp) (C : Addr) (cl : List (Str × Addr)) (fp : List Addr), PG (X.blk s H scope (compEnvC scope cl C X.env) fp) tg (gName i)) (ht : ∀ (s : Shared) (H : Hp) (C : Addr) (cl : List (Str × Addr)) (fp : List Addr), PTs (X.blk s H scope (compEnvC scope cl C X.env) fp) ifs (rdT X.K tt))
    (he : ∀ (s : Shared) (H : Hp) (C : Addr) (cl : List (Str × Addr)) (fp : List Addr), PE (X.blk s H scope (compEnvC scope cl C X.env) fp) elt (rdE X.K te)) (hs : ∀ x, foldedSetIterable iter X.env x = pure x := by intro _; rfl) :
    PE X (.ListComp elt [⟨tg, iter, ifs, 0⟩] scope pos) (rdE X.K (dLc [i] wi tt te)) := pe_mono (pe_lc hc hN hi ok hg ht he hs) (lc_imp (by simp))
theorem d_lc2 {elt tg iter : Expr} {ifs : List Expr} {scope : Scope} {x y : Str} {i j : Nat} {wi : DI} {tt : DT} {te : DE} (hij : i ≠ j) (hc : X.calm = true) (hN : X.N.Nodup) (hi : PI X tg iter (rdI X.K wi)) (ok : BlkOk X.N X.env.scope scope [(x, i), (y, j)])
    (hg : ∀ (s : Shared) (H : Hp) (C : Addr) (cl : List (Str × Addr)) (fp : List Addr), PG (X.blk s H scope (compEnvC scope cl C X.env) fp) tg (gTup X.K 2 (gCons (gName i) (gCons (gName j) gNil)))) (ht : ∀ (s : Shared) (H : Hp) (C : Addr) (cl : List (Str × Addr)) (fp : List Addr), PTs (X.blk s H scope (compEnvC scope cl C X.env) fp) ifs (rdT X.K tt))
    (he : ∀ (s : Shared) (H : Hp) (C : Addr) (cl : List (Str × Addr)) (fp : List Addr), PE (X.blk s H scope (compEnvC scope cl C X.env) fp) elt (rdE X.K te)) (hs : ∀ x, foldedSetIterable iter X.env x = pure x := by intro _; rfl) :
    PE X (.ListComp elt [⟨tg, iter, ifs, 0⟩] scope pos) (rdE X.K (dLc [i, j] wi tt te)) := pe_mono (pe_lc hc hN hi ok hg ht he hs) (lc_imp (by simpa using hij))
theorem asgLc_imp {K : PySem.W.Frag} {own : List Nat} {wi : DI} {tt : DT} {te : DE} {i : Nat} (hn : own.Nodup) : ∀ D σ H, rdS K (dAsg (dLc own wi tt te) (dgName i)) D σ H → tAsg (tLc (rdI K wi) (gOwn K own) (rdT K tt) (rdE K te) own) (gName i) D σ H :=
  fun D σ H h => lc_imp hn σ H _ (asgN_imp D σ H h)
theorem d_setLc1 {n : Nat} {y : Str} {py : Pos} {elt tg iter : Expr} {ifs : List Expr} {scope : Scope} {x : Str} {i : Nat} {spos : Pos} {wi : DI} {tt : DT} {te : DE} (hc : X.calm = true) (hN : X.N.Nodup) (hy : X.N[n]? = some y) (hyl : X.env.scope.names.lookup y = some .local)
    (hsw : swapsWith (.ListComp elt [⟨tg, iter, ifs, 0⟩] scope pos) (some (.Name y py)) spos.line X.env = pure true) (hi : PI X tg iter (rdI X.K wi)) (ok : BlkOk X.N X.env.scope scope [(x, i)])
    (hg : ∀ (s : Shared) (H : Hp) (C : Addr) (cl : List (Str × Addr)) (fp : List Addr), PG (X.blk s H scope (compEnvC scope cl C X.env) fp) tg (gName i)) (ht : ∀ (s : Shared) (H : Hp) (C : Addr) (cl : List (Str × Addr)) (fp : List Addr), PTs (X.blk s H scope (compEnvC scope cl C X.env) fp) ifs (rdT X.K tt))
    (he : ∀ (s : Shared) (H : Hp) (C : Addr) (cl : List (Str × Addr)) (fp : List Addr), PE (X.blk s H scope (compEnvC scope cl C X.env) fp) elt (rdE X.K te)) (hs : ∀ x, foldedSetIterable iter X.env x = pure x := by intro _; rfl) :
    PS X (.Assign [.Name y py] (.ListComp elt [⟨tg, iter, ifs, 0⟩] scope pos) spos) (rdS X.K (dAsg (dLc [i] wi tt te) (dgName n))) := ps_mono (ps_setLc hc hN hy hyl hsw hi ok hg ht he hs) (asgLc_imp (by simp))
theorem d_setLc2 {n : Nat} {z : Str} {py : Pos} {elt tg iter : Expr} {ifs : List Expr} {scope : Scope} {x y : Str} {i j : Nat} {spos : Pos} {wi : DI} {tt : DT} {te : DE} (hij : i ≠ j) (hc : X.calm = true) (hN : X.N.Nodup) (hy : X.N[n]? = some z) (hyl : X.env.scope.names.lookup z = some .local)
    (hsw : swapsWith (.ListComp elt [⟨tg, iter, ifs, 0⟩] scope pos) (some (.Name z py)) spos.line X.env = pure true) (hi : PI X tg iter (rdI X.K wi)) (ok : BlkOk X.N X.env.scope scope [(x, i), (y, j)])
    (hg : ∀ (s : Shared) (H : Hp) (C : Addr) (cl : List (Str × Addr)) (fp : List Addr), PG (X.blk s H scope (compEnvC scope cl C X.env) fp) tg (gTup X.K 2 (gCons (gName i) (gCons (gName j) gNil)))) (ht : ∀ (s : Shared) (H : Hp) (C : Addr) (cl : List (Str × Addr)) (fp : List Addr), PTs (X.blk s H scope (compEnvC scope cl C X.env) fp) ifs (rdT X.K tt))
    (he : ∀ (s : Shared) (H : Hp) (C : Addr) (cl : List (Str × Addr)) (fp : List Addr), PE (X.blk s H scope (compEnvC scope cl C X.env) fp) elt (rdE X.K te)) (hs : ∀ x, foldedSetIterable iter X.env x = pure x := by intro _; rfl) :
    PS X (.Assign [.Name z py] (.ListComp elt [⟨tg, iter, ifs, 0⟩] scope pos) spos) (rdS X.K (dAsg (dLc [i, j] wi tt te) (dgName n))) := ps_mono (ps_setLc hc hN hy hyl hsw hi ok hg ht he hs) (asgLc_imp (by simpa using hij))

/-! methods of lists -/
def dAppend (to te : DE) : DE := fun env st P => to env st fun o s1 => match o with
  | .ref n => te env s1 fun d s2 => optK s2[n]? fun xs => xs.length < 10000 ∧ P .non (s2.set n (xs ++ [d]))
  | _ => False
theorem d_append {o : Expr} {to te : DE} {apos cpos : Pos} (h : PE X (.Call (.Attribute o "append" apos) [e] [] cpos) (tBM X.K "list" rAppend (rdE X.K to) (rdA X.K (dCons te dNil)))) : PE X (.Call (.Attribute o "append" apos) [e] [] cpos) (rdE X.K (dAppend to te)) := pe_mono h fun σ H Q h => by
  obtain ⟨φ, env, st, P, re, rs, h, hP⟩ := h
  refine ⟨φ, env, st, _, re, rs, h, fun x s1 h1 φ1 v H1 e1 rx rs1 => ?_⟩
  cases x with
  | ref n =>
    obtain ⟨a, rfl, ha⟩ := rel_ref.mp rx
    obtain ⟨ds, vs, q1, q2, q3⟩ := rs1.get ha
    refine ⟨.inl ⟨rfl, _, .of q2⟩, φ1, env, s1, fun ds s2 => match ds with | [d] => (optK s2[n]? fun xs => xs.length < 10000 ∧ P .non (s2.set n (xs ++ [d]))) | _ => False, re.ext e1, rs1, h1, fun ds s2 h2 φ2 ws H2 e2 rw' rs2 => ?_⟩
    dsimp only at h2
    split at h2
    · obtain ⟨w, rfl, r3⟩ := relDs_one rw'
      have ha2 := get_pre e2.pre ha
      obtain ⟨es, us, g1, g2, g3⟩ := rs2.get ha2
      rw [g1] at h2
      refine ⟨a, us, w, rfl, rfl, g2, by rw [g3.length, sizeLine_eq]; have := h2.1; omega, ?_⟩
      exact hP _ _ h2.2 φ2 _ _ ((e1.trans e2).trans (Ext.chg g2)) (rel_non.mpr rfl) (rs2.chg ha2 g2 (g3.append (.one r3)))
    · exact h2.elim
  | _ => exact h1.elim
def popD (st : Store) (n : Nat) (P : KD) : Prop := optK st[n]? fun xs => optK xs[xs.length - 1]? fun d => P d (st.set n xs.dropLast)
def dPop (to : DE) : DE := fun env st P => to env st fun o s => match o with | .ref n => popD s n P | _ => False
theorem dropLast_take {α : Type} (l : List α) : l.dropLast = l.take (l.length - 1) := List.dropLast_eq_take
theorem d_pop {o : Expr} {to : DE} {apos cpos : Pos} (h : PE X (.Call (.Attribute o "pop" apos) [] [] cpos) (tBM0 X.K "list" rPop (rdE X.K to))) : PE X (.Call (.Attribute o "pop" apos) [] [] cpos) (rdE X.K (dPop to)) := pe_mono h fun σ H Q h => by
  obtain ⟨φ, env, st, P, re, rs, h, hP⟩ := h
  refine ⟨φ, env, st, _, re, rs, h, fun x s1 h1 φ1 v H1 e1 rx rs1 => ?_⟩
  cases x with
  | ref n =>
    obtain ⟨a, rfl, ha⟩ := rel_ref.mp rx
    obtain ⟨ds, vs, q1, q2, q3⟩ := rs1.get ha
    have h1 : popD s1 n P := h1
    unfold popD at h1
    rw [q1] at h1
    obtain ⟨d, q4, h1⟩ := optK_elim (show optK ds[ds.length - 1]? fun d => P d (s1.set n ds.dropLast) from h1)
    · obtain ⟨w, g1, g2⟩ := q3.get q4
      refine ⟨.inl ⟨rfl, _, .of q2⟩, a, vs, w, rfl, rfl, q2, by rw [q3.length]; exact g1, ?_⟩
      have rr : RelDs X.K H1 φ1 ds.dropLast vs.dropLast := by
        rw [dropLast_take, dropLast_take, q3.length]
        exact q3.take _
      exact hP _ _ h1 φ1 _ _ (e1.trans (Ext.chg q2)) (g2.ext (Ext.chg q2)) (rs1.chg ha q2 rr)
  | _ => exact h1.elim

/-! t[::-1] -/
def dRev (te : DE) : DE := fun env st P => te env st fun d s => match d with
  | .tup xs => P (.tup xs.reverse) s
  | _ => False

/-! what is dropped at the end of a call -/
mutual
def clD (n : Nat) : D → Bool
  | .tup ds => clDs n ds
  | .fz ds => clDs n ds
  | .ref k => decide (k < n)
  | _ => true
def clDs (n : Nat) : List D → Bool
  | [] => true
  | d :: ds => clD n d && clDs n ds
end
def clSt (n : Nat) (st : Store) : Bool := st.all (clDs n)
section
variable {K : PySem.W.Frag} {H : Hp} {φ : List Addr}
mutual
theorem clD_rel : ∀ (d : D) (v : V), RelD K H φ d v → clD φ.length d = true
  | .non, v, r => by simp [clD]
  | .bl _, v, r => by simp [clD]
  | .int _, v, r => by simp [clD]
  | .str _, v, r => by simp [clD]
  | .ty _, v, r => by simp [clD]
  | .tup ds, v, r => by
    obtain ⟨a, vs, rfl, _, h⟩ := rel_tup.mp r
    simp only [clD]
    exact clDs_rel ds vs h
  | .fz ds, v, r => by
    obtain ⟨a, vs, rfl, _, h⟩ := rel_fz.mp r
    simp only [clD]
    exact clDs_rel ds vs h
  | .ref n, v, r => by
    obtain ⟨a, rfl, h⟩ := rel_ref.mp r
    obtain ⟨h1, _⟩ := List.getElem?_eq_some_iff.mp h
    simp [clD, h1]
theorem clDs_rel : ∀ (ds : List D) (vs : List V), RelDs K H φ ds vs → clDs φ.length ds = true
  | [], vs, r => by simp [clDs]
  | d :: ds, vs, r => by
    obtain ⟨v, w, rfl, h1, h2⟩ := relDs_cons.mp r
    simp only [clDs, clD_rel d v h1, clDs_rel ds w h2, Bool.and_self]
end
theorem clSt_rel {st : Store} (rs : RelSt K H φ st) : clSt st.length st = true := by
  unfold clSt
  refine List.all_eq_true.mpr fun ds hd => ?_
  obtain ⟨n, hn⟩ := List.getElem?_of_mem hd
  obtain ⟨h1, _⟩ := List.getElem?_eq_some_iff.mp hn
  have h2 : n < φ.length := by rw [rs.len]; exact h1
  obtain ⟨vs, _, h4⟩ := rs.at n _ ds (List.getElem?_eq_getElem h2) hn
  rw [← rs.len]
  exact clDs_rel ds vs h4
theorem get_take {α : Type} {l : List α} {n k : Nat} {a : α} (h : k < n) (e : l[k]? = some a) : (l.take n)[k]? = some a := by
  rw [List.getElem?_take, if_pos h]; exact e
mutual
theorem RelD.cut (n : Nat) : ∀ (d : D) (v : V), RelD K H φ d v → clD n d = true → RelD K H (φ.take n) d v
  | .non, v, r, c => by unfold RelD at r ⊢; exact r
  | .bl _, v, r, c => by unfold RelD at r ⊢; exact r
  | .int _, v, r, c => by unfold RelD at r ⊢; exact r
  | .str _, v, r, c => by unfold RelD at r ⊢; exact r
  | .ty _, v, r, c => by unfold RelD at r ⊢; exact r
  | .tup ds, v, r, c => by
    obtain ⟨a, vs, rfl, h0, h⟩ := rel_tup.mp r
    simp only [clD] at c
    exact rel_tup.mpr ⟨a, vs, rfl, h0, RelDs.cutn n ds vs h c⟩
  | .fz ds, v, r, c => by
    obtain ⟨a, vs, rfl, h0, h⟩ := rel_fz.mp r
    simp only [clD] at c
    exact rel_fz.mpr ⟨a, vs, rfl, h0, RelDs.cutn n ds vs h c⟩
  | .ref k, v, r, c => by
    obtain ⟨a, rfl, h⟩ := rel_ref.mp r
    simp only [clD, decide_eq_true_eq] at c
    exact rel_ref.mpr ⟨a, rfl, get_take c h⟩
theorem RelDs.cutn (n : Nat) : ∀ (ds : List D) (vs : List V), RelDs K H φ ds vs → clDs n ds = true → RelDs K H (φ.take n) ds vs
  | [], vs, r, c => by unfold RelDs at r ⊢; exact r
  | d :: ds, vs, r, c => by
    obtain ⟨v, w, rfl, h1, h2⟩ := relDs_cons.mp r
    simp only [clDs, Bool.and_eq_true] at c
    exact .cons (RelD.cut n d v h1 c.1) (RelDs.cutn n ds w h2 c.2)
end
theorem RelSt.cut {s g : Store} (rs : RelSt K H φ (s ++ g)) (c : clSt s.length s = true) : RelSt K H (φ.take s.length) s := by
  have hl := rs.len
  rw [List.length_append] at hl
  refine ⟨by rw [List.length_take]; omega, rs.nd.sublist (List.take_sublist _ _), fun n a ds e1 e2 => ?_⟩
  obtain ⟨h1, _⟩ := List.getElem?_eq_some_iff.mp e2
  rw [List.getElem?_take, if_pos h1] at e1
  obtain ⟨vs, q1, q2⟩ := rs.at n a ds e1 (by rw [List.getElem?_append_left h1]; exact e2)
  exact ⟨vs, q1, q2.cutn _ _ _ (List.all_eq_true.mp c ds (List.mem_of_getElem? e2))⟩
theorem Ext.cut {φ0 : List Addr} {H0 : Hp} {n : Nat} (x : Ext K φ0 H0 φ H) (h : φ0.length ≤ n) : Ext K φ0 H0 (φ.take n) H := by
  refine ⟨?_, x.tup, x.frz⟩
  obtain ⟨t, rfl⟩ := x.pre
  rw [List.take_append]
  rw [List.take_of_length_le h]
  exact List.prefix_append _ _
end
/-- at a call's end: what stands behind the store's first part is dropped; a new list that is handed back is kept -/
def RetP (n : Nat) (P : KD) : KD := fun d st => P d st ∨ (∃ s g, st = s ++ g ∧ n ≤ s.length ∧ clD s.length d = true ∧ clSt s.length s = true ∧ P d s) ∨
  ∃ s g j xs, st = s ++ g ∧ n ≤ s.length ∧ d = .ref (s.length + j) ∧ g[j]? = some xs ∧ clDs s.length xs = true ∧ clSt s.length s = true ∧ P (.ref s.length) (s ++ [xs])
theorem ret_ok {K : PySem.W.Frag} {H : Hp} {φ : List Addr} {n : Nat} {P : KD} {Q : VK} {d : D} {st : Store} (hn : φ.length ≤ n) (h : RetP n P d st) (hP : ∀ d st', P d st' → Post K φ H Q d st') : Post K φ H Q d st := by
  intro φ' v H' x rd rs
  rcases h with h | ⟨s, g, rfl, h1, h2, h3, h⟩ | ⟨s, g, j, xs, rfl, h1, rfl, h2, h3, h4, h⟩
  · exact hP d st h φ' v H' x rd rs
  · exact hP d s h _ v H' (x.cut (Nat.le_trans hn h1)) (rd.cut _ _ _ h2) (rs.cut h3)
  · obtain ⟨a, rfl, ha⟩ := rel_ref.mp rd
    have rs0 := rs.cut h4
    have hl := rs.len
    rw [List.length_append] at hl
    have hlt : s.length ≤ φ'.length := by omega
    obtain ⟨vs, q1, q2⟩ := rs.at _ a xs ha (by rw [List.getElem?_append_right (by omega)]; rw [Nat.add_sub_cancel_left]; exact h2)
    refine hP _ _ h (φ'.take s.length ++ [a]) _ H' ⟨((x.cut (Nat.le_trans hn h1)).pre).trans (List.prefix_append _ _), x.tup, x.frz⟩ (rel_ref.mpr ⟨a, rfl, ?_⟩) ⟨?_, ?_, fun m b es e1 e2 => ?_⟩
    · rw [List.getElem?_append_right (Nat.le_of_eq rs0.len), rs0.len, Nat.sub_self]; rfl
    · rw [List.length_append, List.length_append, rs0.len]; rfl
    · refine List.nodup_append.mpr ⟨rs0.nd, by simp, fun b hb c hc => ?_⟩
      obtain rfl : c = a := by simpa using hc
      rintro rfl
      obtain ⟨m, hm⟩ := List.getElem?_of_mem hb
      obtain ⟨m1, _⟩ := List.getElem?_eq_some_iff.mp hm
      rw [List.length_take] at m1
      have m2 : m < s.length := by omega
      rw [List.getElem?_take, if_pos m2] at hm
      obtain ⟨i1, w1⟩ := List.getElem?_eq_some_iff.mp hm
      obtain ⟨i2, w2⟩ := List.getElem?_eq_some_iff.mp ha
      have := (List.getElem_inj rs.nd).mp (w1.trans w2.symm)
      omega
    · by_cases hm : m < s.length
      · rw [List.getElem?_append_left (by rw [rs0.len]; exact hm)] at e1
        rw [List.getElem?_append_left hm] at e2
        obtain ⟨ws, z1, z2⟩ := rs0.at m b es e1 e2
        exact ⟨ws, z1, z2.ext ⟨List.prefix_append _ _, fun _ _ h => h, fun _ _ h => h⟩⟩
      · have e2' := e2
        rw [List.getElem?_append_right (by omega)] at e2
        have hm2 : m = s.length := by
          obtain ⟨w1, _⟩ := List.getElem?_eq_some_iff.mp e2'
          rw [List.length_append] at w1
          simp at w1
          omega
        subst hm2
        rw [Nat.sub_self] at e2
        cases e2
        rw [List.getElem?_append_right (Nat.le_of_eq rs0.len), rs0.len, Nat.sub_self] at e1
        cases e1
        exact ⟨vs, q1, (q2.cutn _ _ _ h3).ext ⟨List.prefix_append _ _, fun _ _ h => h, fun _ _ h => h⟩⟩
/-- a value whose making left lists behind -/
def dGc (t : DE) : DE := fun env st P => t env st fun d s' => ∃ g, s' = st ++ g ∧ clD st.length d = true ∧ P d st
theorem d_gc {t : DE} (h : PE X e (rdE X.K t)) : PE X e (rdE X.K (dGc t)) := pe_mono h fun σ H Q h => by
  obtain ⟨φ, env, st, P, re, rs, h, hP⟩ := h
  refine ⟨φ, env, st, _, re, rs, h, fun d s1 h1 φ1 v H1 e1 rv rs1 => ?_⟩
  obtain ⟨g, rfl, c, h1⟩ := h1
  have hl := clSt_rel rs
  exact hP d st h1 _ v H1 (e1.cut (Nat.le_of_eq rs.len)) (rv.cut _ _ _ c) (rs1.cut hl)
/-! defs -/
def startD (n : Nat) (ds : List D) : Env := ds.map some ++ List.replicate (n - ds.length) none
theorem relE_start {K : PySem.W.Frag} {H : Hp} {φ : List Addr} {N : List Str} {ds : List D} {vs : List V} (r : RelDs K H φ ds vs) : RelE K H φ (L2.start N vs) (startD N.length ds) := by
  have hl := r.length
  refine ⟨by simp [startD, L2.start, hl], fun i d e => ?_⟩
  unfold startD at e
  by_cases hi : i < ds.length
  · rw [List.getElem?_append_left (by simpa using hi), List.getElem?_map, List.getElem?_eq_getElem hi] at e
    cases e
    obtain ⟨v, h1, h2⟩ := r.get (List.getElem?_eq_getElem hi)
    refine ⟨v, ?_, h2⟩
    unfold L2.start
    rw [List.getElem?_append_left (by rw [List.length_map, hl]; exact hi), List.getElem?_map, h1]
    rfl
  · rw [List.getElem?_append_right (by simpa using hi), List.getElem?_replicate] at e
    split at e <;> cases e
def bodyEnds (n : Nat) (P : KD) : DEnds := { nx := fun _ s => RetP n P .non s, rt := RetP n P }
/-- a def keeps its promise, by its body -/
theorem d_fn {P : Program} {w : World} {K : PySem.W.Frag} {mg : Str → Option Value} {base : Heap} {x : Str} {st : Stmt} {f : Addr} {fd : FuncData} {N ps : List Str} {k n : Nat} {sp : DSp} {t : DS} (F : C8.Fun K x x st f fd) (S : FnScope N ps (fnScope st)) (hn : ps.length = n)
    (hb : ∀ (cdv : Value) (A : Around) (outer : List PySem.Env) (s : Shared) (H : Hp) (E : XK), Room k (A.deeper (envOfC x (fnScope st) s.heap.objs.size f cdv)) → PSs (cxOf L2.CX0 P w K mg base N x (fnScope st) f cdv A outer s H E).nox (fnBody st) (rdS K t))
    (hd : ∀ ds st P, ds.length = n → clSt st.length st = true → clDs st.length ds = true → sp ds st P → t (bodyEnds st.length P) (startD N.length ds) st) : FnOk P w K mg base L2.CX0 (k + 1) f fd ps (lift K n sp) := by
  refine fn0 F S (fun vs H Q E h => by rw [hn]; exact h.1) fun cdv A outer s H vs Q E hr h => ?_
  obtain ⟨hl, φ, ds, st, P, rd, rs, h, hP⟩ := h
  refine ⟨rdS K t, hb cdv A outer s H E hr, φ, _, st, bodyEnds st.length P, relE_start rd, rs, hd ds st P (by rw [← rd.length]; exact hl) (clSt_rel rs) (by rw [← rs.len]; exact clDs_rel ds vs rd) h, ?_⟩
  have rt : ∀ d st', RetP st.length P d st' → Post K φ H Q d st' := fun d st' h => ret_ok (Nat.le_of_eq rs.len) h hP
  exact ⟨fun env s1 h1 φ1 σ1 H1 e1 re1 rs1 => rt _ _ h1 φ1 _ H1 e1 (rel_non.mpr rfl) rs1, rt, fun env s1 h1 => h1.elim, fun env s1 h1 => h1.elim⟩
theorem d_fun {P : Program} {w : World} {K : PySem.W.Frag} {mg : Str → Option Value} {base : Heap} {x : Str} {st : Stmt} {f : Addr} {fd : FuncData} {N ps : List Str} {k n : Nat} {sp : DSp} {t : DS} (F : Def K mg x st f fd) (b : Binds K fd ps []) (S : FnScope N ps (fnScope st)) (hn : ps.length = n)
    (hb : ∀ (cdv : Value) (A : Around) (outer : List PySem.Env) (s : Shared) (H : Hp) (E : XK), Room k (A.deeper (envOfC x (fnScope st) s.heap.objs.size f cdv)) → PSs (cxOf L2.CX0 P w K mg base N x (fnScope st) f cdv A outer s H E).nox (fnBody st) (rdS K t))
    (hd : ∀ ds st P, ds.length = n → clSt st.length st = true → clDs st.length ds = true → sp ds st P → t (bodyEnds st.length P) (startD N.length ds) st) : DCal P w K mg base (k + 1) x n sp :=
  ⟨f, fd, ps, [], d_fn F.fn S hn hb hd, F.mgf, F.kp, b, .nil⟩
end
/-- the law's own promise -/
def sp_law : DSp := fun ds _ P => ∃ ns : List Int, ds = [.fz (ns.map .int)] ∧ ns.length ≤ 63 ∧ ∀ st, P (.bl true) st
theorem law_lift {K : PySem.W.Frag} {H : Hp} {a : Addr} {ns : List Int} {E : XK} (h0 : Only H) (hl : ns.length ≤ 63) (hs : SqL K H a (ns.map V.int)) : lift K 1 sp_law [.ref a] H (fun v _ => v = .bl true) E := by
  refine ⟨rfl, [], [.fz (ns.map .int)], [], fun d _ => d = .bl true, .one (rel_fz.mpr ⟨a, _, rfl, ?_, .ints⟩), ⟨rfl, .nil, fun n b ds e => by simp at e⟩, ⟨ns, rfl, hl, fun _ => rfl⟩, fun d st' e φ' v H' x r rs => ?_⟩
  · rcases hs with (h | ⟨o, h⟩) | h
    · rcases h0 a with z | ⟨o, xs, z⟩
      · rw [z] at h; cases h
      · rw [z] at h; cases h
    · exact .inl ⟨o, h⟩
    · exact .inr h
  · subst e
    exact rel_bl.mp r
end DL

/-! The data level: reversed tuples; short words for the printed derivations. -/
namespace DL
open PySem PySem.Spec PyProof.Rows L2 C8

section
variable {prog : Program} {w : World} {A : Around} {E : Value → Shared → Prop} {s : Shared}
theorem back_applied {sl : Addr} {t : Tok} {n : Nat} {Q : Int × Int × Nat → Shared → Prop} (hs : s.heap.IsSliceOf sl .none .none (.int (-1) t)) (h : Q ((n : Int) - 1, -1, n) s) :
    wpAny (model prog w) A (Builtin.Slice.sliceApplied (.ref sl) (pure (n : Int))) Q E s := by
  obtain ⟨os, hos, hcs, hds⟩ := id hs
  unfold Builtin.Slice.sliceApplied Builtin.Slice.sliceFields
  refine wpAny_bind (wpAny_bind (wpAny_field hos hds (x := .none) rfl (wpAny_bind (wpAny_field hos hds (x := .none) rfl (wpAny_bind (wpAny_field hos hds (x := .int (-1) t) rfl (wpAny_pure ?_)))))))
  refine wpAny_bind (HT.slicePart_ (o := some (-1)) (.int (-1) t) ?_)
  show wpAny _ _ (if ((-1 : Int) == 0) = true then _ else _) _ _ s
  rw [if_neg (by decide)]
  refine wpAny_bind (HT.slicePart_ (o := none) .none (wpAny_bind (HT.slicePart_ (o := none) .none (wpAny_bind (wpAny_pure ?_)))))
  have e : Builtin.Slice.slicePlaces ((n : Int) - 1) (-1) (-1) = n := by
    unfold Builtin.Slice.slicePlaces
    rw [if_neg (by decide)]
    by_cases hn : (n : Int) - 1 > -1
    · rw [if_pos hn]
      have : ((n : Int) - 1 - -1 - 1) / (- -1) + 1 = n := by
        rw [show (- -1 : Int) = 1 by decide, Int.ediv_one]
        omega
      omega
    · rw [if_neg hn]
      omega
  show wpAny _ _ (pure ((n : Int) - 1, (-1 : Int), Builtin.Slice.slicePlaces ((n : Int) - 1) (-1) (-1))) _ _ s
  rw [e]
  exact wpAny_pure h
theorem filterMap_some {α β : Type} {f : α → Option β} {g : α → β} : ∀ {l : List α}, (∀ a ∈ l, f a = some (g a)) → l.filterMap f = l.map g
  | [], _ => rfl
  | a :: l, h => by
    rw [List.filterMap_cons, h a List.mem_cons_self, List.map_cons, filterMap_some fun b hb => h b (List.mem_cons_of_mem _ hb)]
theorem back_pick (xs : List Value) : ((List.range xs.length).filterMap fun (m : Nat) => xs.toArray[(((xs.length : Int) - 1) + (m : Int) * (-1)).toNat]?) = xs.reverse := by
  have e : ∀ m ∈ List.range xs.length, xs.toArray[(((xs.length : Int) - 1) + (m : Int) * (-1)).toNat]? = some ((xs.reverse)[m]?.getD .none) := fun m hm => by
    have hm' := List.mem_range.mp hm
    have h1 : (((xs.length : Int) - 1) + (m : Int) * (-1)).toNat = xs.length - 1 - m := by omega
    rw [h1, List.getElem?_toArray, List.getElem?_reverse hm', List.getElem?_eq_getElem (by omega)]
    rfl
  rw [filterMap_some (g := fun m => (xs.reverse)[m]?.getD .none) e]
  refine List.ext_getElem? fun i => ?_
  rw [List.getElem?_map]
  by_cases hi : i < xs.length
  · have hr : i < xs.reverse.length := by simpa using hi
    rw [List.getElem?_range hi, List.getElem?_eq_getElem hr]
    show some ((xs.reverse)[i]?.getD .none) = _
    rw [List.getElem?_eq_getElem hr]
    rfl
  · rw [List.getElem?_eq_none (by simpa using hi), List.getElem?_eq_none (by simpa using hi)]
    rfl
theorem back_tuple {t sl : Addr} {items : List Value} {tk : Tok} {Q : Value → Shared → Prop} (ht : IsTup s.heap t items.toArray) (hs : s.heap.IsSliceOf sl .none .none (.int (-1) tk))
    (h : Q (.ref s.heap.objs.size) { s with heap := s.heap.push { cls := .type "tuple", data := .seq items.reverse.toArray } }) (hsz : items.length ≤ sizeLine) : wpAny (model prog w) A (getItem (.ref t) (.ref sl)) Q E s := by
  have hso : sizeOk (.seq items.reverse.toArray) := by
    show items.reverse.toArray.size ≤ sizeLine
    rw [List.size_toArray, List.length_reverse]
    exact hsz
  obtain ⟨os, hos, hcs, hds⟩ := id hs
  have hTs : s.TypeIs (.ref sl) "slice" := ⟨os, hos, hcs⟩
  unfold getItem
  try with_reducible refine wpAny_holding ?_
  first | refine wpAny_bind (wpAny_pure ?_) | skip
  refine wpAny_bind (wpAny_sequenceKey ht.typeIs (by decide) ?_)
  refine wpAny_bind (wpAny_callSpecial?_slot (name := Str.ofString "__getitem__") ht.typeIs PyProof.Rows.slot_tuple_getitem
    (wpAny_call_entry PyProof.Rows.slot_tuple_getitem ht.typeIs entry_tuple_getitem ?_ (args_tuple_getitem _ _)))
  show wpAny _ _ (Builtin.Tuple.tupleItemsOf (.ref t) >>= _) _ _ s
  refine wpAny_bind (tupleItemsOf_ ht ?_)
  refine wpAny_bind (wpAny_typeOf hTs ?_)
  rw [if_pos (by decide)]
  refine wpAny_bind (m := Builtin.Slice.sliceApplied (.ref sl) (pure ((items.toArray.size : Nat) : Int))) (back_applied (n := items.toArray.size) hs ?_)
  have hno : ¬ ((((items.toArray.size : Nat) : Int) - 1 == 0 && (-1 : Int) == 1 && items.toArray.size == items.toArray.size) = true) := by
    rw [show ((-1 : Int) == 1) = false from rfl, Bool.and_false, Bool.false_and]
    decide
  show wpAny _ _ (if (((items.toArray.size : Nat) : Int) - 1 == 0 && (-1 : Int) == 1 && items.toArray.size == items.toArray.size) = true then _ else _) _ _ s
  rw [if_neg hno]
  have hp : ((List.range items.toArray.size).filterMap fun (m : Nat) => items.toArray[((((items.toArray.size : Nat) : Int) - 1) + (m : Int) * (-1)).toNat]?).toArray = items.reverse.toArray := by
    rw [List.size_toArray, back_pick]
  rw [hp]
  first
    | exact wpAny_bind (m := Builtin.Tuple.tupleExact _) (wpAny_newObj_type (wpAny_pure ⟨_, rfl, wpAny_pure h⟩) hso)
    | exact wpAny_bind (m := Builtin.Tuple.tupleExact _) (wpAny_newObj_type (wpAny_bind (wpAny_pure (wpAny_pure ⟨_, rfl, wpAny_pure h⟩))) hso)
    | exact wpAny_bind (wpAny_bind (m := Builtin.Tuple.tupleExact _) (wpAny_newObj_type (wpAny_pure (wpAny_pure ⟨_, rfl, wpAny_pure h⟩)) hso))
    | exact wpAny_bind (wpAny_bind (m := Builtin.Tuple.tupleExact _) (wpAny_newObj_type (wpAny_pure ⟨_, rfl, wpAny_pure h⟩) hso))
end
section
variable {X : Cx} {e : Expr} {te : DE} {pos : Pos}
def tRevT (K : PySem.W.Frag) (te : TE) : TE := fun σ H Q => te σ H fun x H1 => ∃ a xs, x = .ref a ∧ SqT K H1 a xs ∧ ∀ p, H1 p = none → Q (.ref p) (upd H1 p (.tup xs.reverse))
theorem pe_revT {te : TE} {k : Nat} {p1 p2 p3 : Pos} (he : PE X e te) : PE X (.Subscript e (.Slice none none (some (.UnaryOp .USub (.Constant (.int 1) k p1) p2)) p3) pos) (tRevT X.K te) := by
  refine ⟨fun pins s σ H Q I h => Subscript_ (thn (he.run pins s σ H _ I h) fun v s1 ⟨x, H1, I1, r1, q1⟩ => ?_)⟩
  obtain ⟨a, xs, rfl, hx, q⟩ := q1
  obtain rfl : v = Value.ref a := r1
  have hst : PO X (some (.UnaryOp .USub (.Constant (.int 1) k p1) p2)) (tPart (tUn (rU fun i => .int (-i)) (tC (.int 1)))) := po_some (pe_un un_neg pe_int)
  refine wpAny_Slice (thn (po_none.run pins s1 σ H1 (fun o H2 => o = none ∧ H2 = H1) I1 ⟨rfl, rfl⟩) fun vl s2 ⟨l, H2, I2, pl, el, e2⟩ => ?_)
  subst el e2
  refine thn (po_none.run pins s2 σ H2 (fun o H3 => o = none ∧ H3 = H2) I2 ⟨rfl, rfl⟩) fun vu s3 ⟨u, H3, I3, pu, eu, e3⟩ => ?_
  subst eu e3
  refine thn (hst.run pins s3 σ H3 (fun o H4 => o = some (-1) ∧ H4 = H3) I3 ⟨1, rfl, -1, rfl, rfl, rfl⟩) fun vs s4 ⟨o, H4, I4, ps, eo, e4⟩ => ?_
  subst eo e4
  have I5 : Inv X pins σ H4 { s4 with heap := s4.heap.push { cls := .type "slice", data := .fields #[vl, vu, vs] } } := I4.kept (t' := s4.toks) fun b ob q => Heap.get?_push_of_some _ q
  obtain ⟨its, r, ht, hz⟩ := I5.tuple hx
  have hlen := r.length
  cases pl
  cases pu
  cases ps with
  | int _ tk =>
    have hsl := Heap.IsSliceOf.new s4.heap Value.none Value.none (Value.int (-1) tk)
    refine tail_any (ops := [.ref a, .ref s4.heap.objs.size]) ht.typeIs PyProof.Rows.slot_tuple_getitem.lookup ?_ (by with_unfolding_all rfl)
    refine back_tuple ht hsl ?_ (by rw [← hlen]; exact hz)
    refine ⟨.ref _, _, I5.laid (t' := s4.toks) (o := .tup xs.reverse) (fun b ob q => Heap.get?_push_of_some _ q) (Nat.le_refl _) ?_, rfl, q _ (I5.hok.fresh (Nat.le_refl _))⟩
    exact ⟨by rw [List.length_reverse]; exact hz, _, r.reverse, ⟨_, Heap.get?_push_size _ rfl, rfl, 0, rfl⟩⟩
theorem d_revT {k : Nat} {p1 p2 p3 : Pos} (he : PE X e (rdE X.K te)) : PE X (.Subscript e (.Slice none none (some (.UnaryOp .USub (.Constant (.int 1) k p1) p2)) p3) pos) (rdE X.K (dRev te)) := pe_mono (pe_revT he) fun σ H Q h => by
  obtain ⟨φ, env, st, P, re, rs, h, hP⟩ := h
  refine ⟨φ, env, st, _, re, rs, h, fun d s1 h1 φ1 v H1 e1 rv rs1 => ?_⟩
  split at h1
  · obtain ⟨a, vs, rfl, q, r⟩ := rel_tup.mp rv
    exact ⟨a, vs, rfl, q, fun p hp => post_tup ((hP _ _ h1).ext e1) rs1 r.reverse hp⟩
  · exact h1.elim

/-! short words -/
theorem dv (i : Nat) {x : Str} (hN : X.N[i]? = some x := by rfl) (hv : Vis X.env.scope x := by first | exact Or.inl rfl | exact Or.inr (Or.inl rfl) | exact Or.inr (Or.inr rfl)) (hd : (x == ("__debug__" : Str)) = false := by decide)
    (hcd : (x == ("__classdict__" : Str)) = false := by decide) : PE X (.Name x pos) (rdE X.K (dVar i)) := d_var hN hv hd hcd
theorem Room.u65 {k : Nat} {A : Around} (r : Room k A) : A.units + 65 < cLine := by have := r.un; omega
end
theorem bt_len : bootBuiltins "len" = some (.builtin "len") := by decide +kernel
theorem bt_abs : bootBuiltins "abs" = some (.builtin "abs") := by decide +kernel
theorem bt_max : bootBuiltins "max" = some (.builtin "max") := by decide +kernel
theorem bt_min : bootBuiltins "min" = some (.builtin "min") := by decide +kernel
theorem bt_all : bootBuiltins "all" = some (.builtin "all") := by decide +kernel
theorem bt_isinstance : bootBuiltins "isinstance" = some (.builtin "isinstance") := by decide +kernel
theorem bt_int : bootBuiltins "int" = some (.type "int") := by decide +kernel
theorem bt_bool : bootBuiltins "bool" = some (.type "bool") := by decide +kernel
theorem bt_str : bootBuiltins "str" = some (.type "str") := by decide +kernel
theorem bt_list : bootBuiltins "list" = some (.type "list") := by decide +kernel
theorem bt_tuple : bootBuiltins "tuple" = some (.type "tuple") := by decide +kernel
/-- a pair of ints that the top has written -/
theorem glo_pair {K : PySem.W.Frag} {mg : Str → Option Value} {x : Str} {a : Addr} {p q : Int} {t u : Tok} {o : Obj} {n : Nat} (hm : mg x = some (.ref a)) (hk : K.lookup a = some o) (hc : o.cls = .type "tuple") (hd : o.data = .seq #[.int p t, .int q u] n) : Glo K mg x (.tup [.int p, .int q]) :=
  ⟨.ref a, .ref a, hm, rfl, fun H φ => rel_tup.mpr ⟨a, [.int p, .int q], rfl, .inr ⟨o, _, n, hk, hc, hd, by show 2 ≤ sizeLine; rw [sizeLine_eq]; omega, .cons ⟨t, rfl⟩ (.cons ⟨u, rfl⟩ .nil)⟩, .cons (rel_int.mpr rfl) (.one (rel_int.mpr rfl))⟩⟩
theorem glo_int {K : PySem.W.Frag} {mg : Str → Option Value} {x : Str} {i : Int} {t : Tok} (hm : mg x = some (.int i t)) : Glo K mg x (.int i) := ⟨.int i, .int i t, hm, ⟨t, rfl⟩, fun H φ => rel_int.mpr rfl⟩
end DL

/-! Floor division of any ints; the law's end with what that asks of the heap. -/
namespace DL
open PySem PySem.Spec PyProof.Rows L2 C8

/-- a division by a great number has room -/
def PylOk (X : Cx) : Prop := ∀ (pins : List (Addr × Obj)) (σ : L2.St) (H : Hp) (s : Shared), Inv X pins σ H s → PylongRoom (model X.prog X.w) X.A s
theorem pyl_of {X : Cx} {k : Nat} (hs : X.base.NoSeer) (ht : X.prog.given.tree = none) (hr : Room k X.A) (hk : 32 ≤ k)
    (hst : ∃ env l, X.stack = env :: l ∧ env.scope.isGenerator = false ∧ env.scope.isCoroutine = false ∧ env.builtins = builtinsNs ∧ env.globals = mainGlobals) : PylOk X := fun pins σ H s I => by
  obtain ⟨env, l, e, h1, h2, h3, h4⟩ := hst
  have hd : X.A.depth + Builtin.pylongFrames < recursionLimit := by
    have := hr.dp
    have e2 : Builtin.pylongFrames = 100 := rfl
    omega
  exact PylongRoom.of I.nolimit hd (SeerAt.of (hs.keeps I.bk) ht (I.ok.frames.trans (congrArg some e)) h1 h2 h3 h4)
theorem op_fdivX {X : Cx} (h : PylOk X) : OpR X (binaryOp .FloorDiv) (rI (fun _ j => j ≠ 0) fun i j => .int (i.fdiv j)) := by
  intro pins s σ H x y v u Q I rx ry q
  obtain ⟨i, j, rfl, rfl, hj, q⟩ := q
  obtain ⟨t, rfl⟩ := rx
  obtain ⟨t', rfl⟩ := ry
  exact floordiv_int hj ⟨.int _, H, I.tok _, ⟨_, rfl⟩, q⟩ (.inr (h pins σ H s I))
def rFdivX : ROp := fun x y st P => match x, y with | .int i, .int j => j ≠ 0 ∧ P (.int (i.fdiv j)) st | _, _ => False
theorem im_fdivX {X : Cx} : ImpOp X.K rFdivX (rI (fun _ j => j ≠ 0) fun i j => .int (i.fdiv j)) := by
  intro φ H st x y v u P Q rs rx ry h hP
  cases x <;> cases y <;> first | exact h.elim | skip
  obtain rfl := rel_int.mp rx
  obtain rfl := rel_int.mp ry
  exact ⟨_, _, rfl, rfl, h.1, post_same (hP _ _ h.2) rs (rel_int.mpr rfl)⟩

/-! the law's own call -/
theorem hid_ns {h : Heap} {H : Hp} {b : Addr} {m : Str → Option Value} (no : ∀ (c : Addr) (o : Obj) (es : Array DictEntry) (ep : Nat), h.get? c = some o → o.data = .dict es ep → H c = none) (x : h.Ns b m) : (hidT h H).Ns b m := by
  obtain ⟨o, es, ep, e, d, r⟩ := x
  exact ⟨o, es, ep, hidT_get e (no b o es ep e d), d, r⟩
theorem hid_seer {h : Heap} {H : Hp} (no : ∀ (c : Addr) (o : Obj) (es : Array DictEntry) (ep : Nat), h.get? c = some o → o.data = .dict es ep → H c = none) (nm : ∀ (c : Addr) (o : Obj), h.get? c = some o → o.cls = .type "module" → H c = none) (x : h.NoSeer) : (hidT h H).NoSeer where
  statics := let ⟨m, a, r⟩ := x.statics; ⟨m, hid_ns no a, r⟩
  mods := let ⟨m, a, r⟩ := x.mods; ⟨m, hid_ns no a, r⟩
  imp := let ⟨m, a, r⟩ := x.imp; ⟨m, hid_ns no a, r⟩
  main := let ⟨m, bm, ob, a, r1, r2, r3, r4⟩ := x.main; ⟨m, bm, ob, hid_ns no a, r1, hidT_get r2 (nm bm ob r2 r3), r3, r4⟩
/-- what hides the script -/
def scriptH (K : PySem.W.Frag) (a : Addr) (o : Obj) (xs : List V) : Hp := fun b => if b = a ∧ K.lookup a = none then some (.frz o (.lst xs)) else none
section
variable {K : PySem.W.Frag} {a : Addr} {o : Obj} {xs : List V}
theorem scriptH_cases (b : Addr) : scriptH K a o xs b = none ∨ (b = a ∧ K.lookup a = none ∧ scriptH K a o xs b = some (.frz o (.lst xs))) := by
  unfold scriptH
  split
  · rename_i h
    exact .inr ⟨h.1, h.2, rfl⟩
  · exact .inl rfl
theorem scriptH_some {b : Addr} {u : HO} (e : scriptH K a o xs b = some u) : b = a ∧ K.lookup a = none ∧ u = .frz o (.lst xs) := by
  rcases scriptH_cases (K := K) (a := a) (o := o) (xs := xs) b with h | ⟨h1, h2, h3⟩
  · rw [h] at e; cases e
  · rw [h3] at e; cases e; exact ⟨h1, h2, rfl⟩
theorem scriptH_none {b : Addr} (h : b = a → K.lookup a = none → False) : scriptH K a o xs b = none := by
  rcases scriptH_cases (K := K) (a := a) (o := o) (xs := xs) b with e | ⟨h1, h2, _⟩
  · exact e
  · exact (h h1 h2).elim
end
theorem call_seen {P : Program} {w : World} {K : PySem.W.Frag} {mg mb : Str → Option Value} {CX : CXT} {k : Nat} {fa a : Addr} {fd : FuncData} {x : Str} {sp : Sp} {s₁ : Shared} {vs : List Value} {ns : List Int}
    (kin : K.In s₁.heap) (gl : s₁.heap.Ns mainGlobals mg) (bl : s₁.heap.Ns builtinsNs mb) (bb : ∀ y : Str, y ≠ "__name__" → mb y = bootBuiltins y) (nolim : s₁.heap.NoLimit) (seer : s₁.heap.NoSeer) (gens : s₁.gens = #[])
    (at_a : s₁.heap.get? a = some { cls := .type "list", data := .seq vs.toArray }) (isInts : IntsAre vs ns) (few : ns.length ≤ sizeLine) (room : Room k callerA)
    (F : ∀ base : Heap, K.In base → base.Ns mainGlobals mg → base.NoSeer → FnOk P w K mg base CX k fa fd [x] sp) (bind : ∀ (s : Shared) (u : Value), BindsTo s fd ⟨[u], []⟩ [(x, u)])
    (start : ∀ H : Hp, Only H → SqL K H a (ns.map V.int) → sp [.ref a] H (fun v _ => v = .bl true) fun _ _ _ => False) (noExc : ∀ H e s', CX [] H s₁ (fun _ _ _ => False) e s' → False) :
    codeAny (model P w) callerA (.call (.ref fa) ⟨[.ref a], []⟩) (fun r s' => r = .ok (.ret (.bool true)) ∧ OldK s₁.heap s'.heap ∧ s'.os = s₁.os ∧ AllBare s'.gens) s₁ := by
  let o : Obj := { cls := .type "list", data := .seq vs.toArray }
  let H : Hp := scriptH K a o (ns.map V.int)
  have rel : Vals (ns.map V.int) vs := vals_ints isInts
  have noD : ∀ (c : Addr) (u : Obj) (es : Array DictEntry) (ep : Nat), s₁.heap.get? c = some u → u.data = .dict es ep → H c = none := fun c u es ep e d =>
    scriptH_none fun hc _ => by
      rw [hc, at_a] at e
      cases e
      have : Data.seq vs.toArray _ = Data.dict es ep := d
      cases this
  have noM : ∀ (c : Addr) (u : Obj), s₁.heap.get? c = some u → u.cls = .type "module" → H c = none := fun c u e d =>
    scriptH_none fun hc _ => by
      rw [hc, at_a] at e
      cases e
      have : Value.type "list" = Value.type "module" := d
      exact absurd this (by decide)
  have kinB : K.In (hidT s₁.heap H) := fun b u e => hidT_get (kin b u e) (scriptH_none fun hc hk => by rw [hc, hk] at e; cases e)
  have glB := hid_ns noD gl
  have okH : HOk P w H s₁.heap := fun b u e => by
    obtain ⟨rfl, _, rfl⟩ := scriptH_some e
    exact ⟨at_a, by rw [List.length_map]; exact few, vs, _, rel, at_a⟩
  have only : Only H := fun b => (scriptH_cases b).elim .inl fun h => .inr ⟨o, _, h.2.2⟩
  have sees : SqL K H a (ns.map V.int) := by
    cases hk : K.lookup a with
    | none => exact .inl (.inr ⟨o, if_pos ⟨rfl, hk⟩⟩)
    | some u =>
      have e := kin a u hk
      rw [at_a] at e
      cases e
      exact .inr ⟨_, vs.toArray, _, hk, rfl, rfl, rfl, by rw [List.size_toArray, isInts.length]; exact few, by simpa using rel⟩
  have env : Env0 P w K mg (hidT s₁.heap H) callerA [] s₁ H := ⟨rfl, ⟨kinB, glB, ⟨mb, hid_ns noD bl, bb⟩, let ⟨m, h1, h2⟩ := nolim; ⟨m, hid_ns noD h1, h2⟩⟩, fun b u e => of_hidT e, Nat.le_of_eq (hidT_size _ _), trivial,
    fun b hb => absurd (show b ∈ ([] : List Addr) from hb) (by simp), okH, .of_eq gens⟩
  have run := (F _ kinB glB (hid_seer noD noM seer)).run callerA [] s₁ H ⟨[.ref a], []⟩ [.ref a] [.ref a] _ _ room env (bind s₁ (.ref a)) (.cons rfl .nil) (start H only sees)
  refine codeAny_mono run fun r s' h => ?_
  match r, h with
  | .error e, h => exact (noExc H e s' h).elim
  | .ok .next, h => exact False.elim h
  | .ok .brk, h => exact False.elim h
  | .ok .cont, h => exact False.elim h
  | .ok (.ret u), ⟨v, H', os, bare, un, hok', r', (q : v = .bl true)⟩ =>
    subst q
    obtain rfl : u = Value.bool true := r'
    refine ⟨rfl, OldK.of_keep fun b u e => ?_, os, bare⟩
    cases q : H b with
    | none => exact un.keep b u e q (fun z => absurd (show b ∈ ([] : List Addr) from z) (by simp)) (by simp)
    | some t =>
      obtain ⟨rfl, _, rfl⟩ := scriptH_some q
      have z2 := un.frzs b o _ q
      have e2 : s'.heap.get? b = some o := (hok' b _ z2).1
      rw [at_a] at e
      cases e
      exact e2
theorem walk_seen {l : PySem.W.OpenLaw} {n k : Nat} {q : Program} {loose : List Str} {XP : (Str → Option Value) → Heap → Prop} {YP : World → Heap → Prop} {d : DefRec} {K : Params → PySem.W.Frag} {CX : World → CXT} {sp : World → Sp} {x : Str}
    (hn : l.most = some n) (hn2 : n ≤ sizeLine) (hdf : d.params.defaults = []) (room : Room k callerA) (hq : importsNone q = true) (hY : ∀ (w : World) (h : Heap), YP w h → (K w.params).In h)
    (F : ∀ (w : World) (mg : Str → Option Value) (fa : Addr) (h : Heap), (K w.params).In h → h.Ns mainGlobals mg → mg d.name = some (.ref fa) →
      ∃ fd : FuncData, (∀ (s : Shared) (u : Value), BindsTo s fd ⟨[u], []⟩ [(x, u)]) ∧ ∀ base : Heap, (K w.params).In base → base.Ns mainGlobals mg → base.NoSeer → FnOk l.prog w (K w.params) mg base (CX w) k fa fd [x] (sp w))
    (hsp : ∀ (w : World) (H : Hp) (a : Addr) (ns : List Int), ns.length ≤ n → Only H → SqL (K w.params) H a (ns.map V.int) → sp w [.ref a] H (fun v _ => v = .bl true) fun _ _ _ => False)
    (hCX : ∀ (w : World) (H : Hp) (s : Shared) (e : Value) (s' : Shared), CX w [] H s (fun _ _ _ => False) e s' → False) : PySem.W.WalkO q loose XP YP l.row.toRowW d [] (fun f vs => PySem.call f vs) := by
  refine Att.attach_call hn hdf ?_
  intro w s₀ s₁ mg mb fa o pm cd doc a vs ns G Y ho hd hcd hmg hobj hints hlen hg
  have kin := hY w _ Y
  have ⟨fd, hb, hF⟩ := F w mg fa _ kin G.T.g hmg
  exact call_seen kin G.T.g G.T.b G.T.builtins G.T.nolimit (G.T.seer hq) hg hobj hints (Nat.le_trans hlen hn2) room hF hb (fun H h1 h2 => hsp w H a ns hlen h1 h2) (fun H e s' => hCX w H s₁ e s')
end DL

/-! Fractions: what the program reckons, as rationals; sizes. -/
namespace DL

theorem fdiv_dvd {a b : Int} (h : b ∣ a) : a.fdiv b = a / b := by
  obtain ⟨c, rfl⟩ := h
  by_cases hb : b = 0
  · subst hb; simp
  · rw [Int.mul_fdiv_cancel_left _ hb, Int.mul_ediv_cancel_left _ hb]
/-- the program's normal form -/
theorem frac_pos {p q : Int} (hq : 0 < q) : p.fdiv (Int.gcd p q) = (Rat.divInt p q).num ∧ q.fdiv (Int.gcd p q) = (Rat.divInt p q).den := by
  have h1 : ((Int.gcd p q : Nat) : Int) ∣ p := Int.gcd_dvd_left ..
  have h2 : ((Int.gcd p q : Nat) : Int) ∣ q := Int.gcd_dvd_right ..
  rw [fdiv_dvd h1, fdiv_dvd h2, Rat.num_divInt, Rat.den_divInt, Int.sign_eq_one_of_pos hq, Int.one_mul, Int.gcd_comm q p, if_neg (by omega)]
  refine ⟨rfl, ?_⟩
  rw [Int.natCast_ediv, Int.natAbs_of_nonneg (Int.le_of_lt hq)]
theorem frac_neg {p q : Int} (hq : q < 0) : p.fdiv (-(Int.gcd p q : Nat)) = (Rat.divInt p q).num ∧ q.fdiv (-(Int.gcd p q : Nat)) = (Rat.divInt p q).den := by
  have e : Rat.divInt p q = Rat.divInt (-p) (-q) := (Rat.neg_divInt_neg p q).symm
  have hq' : 0 < -q := by omega
  have h := frac_pos (p := -p) hq'
  rw [Int.gcd_neg, Int.neg_gcd] at h
  rw [e, ← h.1, ← h.2]
  have h1 : ((Int.gcd p q : Nat) : Int) ∣ p := Int.gcd_dvd_left ..
  have h2 : ((Int.gcd p q : Nat) : Int) ∣ q := Int.gcd_dvd_right ..
  rw [fdiv_dvd (Int.neg_dvd.mpr h1), fdiv_dvd (Int.neg_dvd.mpr h2), fdiv_dvd (Int.dvd_neg.mpr h1), fdiv_dvd (Int.dvd_neg.mpr h2)]
  rw [Int.ediv_neg, Int.ediv_neg, Int.neg_ediv_of_dvd h1, Int.neg_ediv_of_dvd h2]
  exact ⟨rfl, rfl⟩

theorem den_ne (x : Rat) : (x.den : Int) ≠ 0 := by have := x.den_pos; omega
theorem add_divInt (x y : Rat) : Rat.divInt (x.num * y.den + y.num * x.den) (x.den * y.den) = x + y := by
  rw [← Rat.divInt_add_divInt _ _ (den_ne x) (den_ne y), Rat.num_divInt_den, Rat.num_divInt_den]
theorem sub_divInt (x y : Rat) : Rat.divInt (x.num * y.den - y.num * x.den) (x.den * y.den) = x - y := by
  rw [← Rat.divInt_sub_divInt _ _ (den_ne x) (den_ne y), Rat.num_divInt_den, Rat.num_divInt_den]
theorem mul_divInt (x y : Rat) : Rat.divInt (x.num * y.num) (x.den * y.den) = x * y := by
  rw [← Rat.divInt_mul_divInt, Rat.num_divInt_den, Rat.num_divInt_den]
theorem div_divInt (x y : Rat) : Rat.divInt (x.num * y.den) (x.den * y.num) = x / y := by
  rw [← Rat.divInt_mul_divInt, Rat.num_divInt_den, Rat.div_def, Rat.inv_def]

/-! sizes -/
def Sz (n : Nat) (x : Rat) : Prop := x.num.natAbs < 2 ^ n ∧ x.den < 2 ^ n
theorem Sz.mono {n m : Nat} {x : Rat} (h : Sz n x) (hm : n ≤ m) : Sz m x :=
  have : 2 ^ n ≤ 2 ^ m := Nat.pow_le_pow_right (by omega) hm
  ⟨Nat.lt_of_lt_of_le h.1 this, Nat.lt_of_lt_of_le h.2 this⟩
theorem sz_divInt {p q : Int} {n : Nat} (hp : p.natAbs < 2 ^ n) (hq : q.natAbs < 2 ^ n) (h1 : 1 ≤ n) : Sz n (Rat.divInt p q) := by
  constructor
  · rw [Rat.num_divInt]
    refine Nat.lt_of_le_of_lt ?_ hp
    have hd : ((q.gcd p : Nat) : Int) ∣ q.sign * p := Int.dvd_mul_of_dvd_right (Int.gcd_dvd_right ..)
    rw [Int.natAbs_ediv_of_dvd hd, Int.natAbs_mul]
    refine Nat.le_trans (Nat.div_le_self _ _) ?_
    have : q.sign.natAbs ≤ 1 := by
      rcases Int.lt_trichotomy q 0 with h | h | h
      · rw [Int.sign_eq_neg_one_of_neg h]; decide
      · subst h; decide
      · rw [Int.sign_eq_one_of_pos h]; decide
    calc q.sign.natAbs * p.natAbs ≤ 1 * p.natAbs := Nat.mul_le_mul_right _ this
      _ = p.natAbs := Nat.one_mul _
  · rw [Rat.den_divInt]
    split
    · exact Nat.one_lt_two_pow (by omega)
    · exact Nat.lt_of_le_of_lt (Nat.div_le_self _ _) hq
theorem mul_lt_pow {a b n m : Nat} (h1 : a < 2 ^ n) (h2 : b < 2 ^ m) : a * b < 2 ^ (n + m) := by
  rw [Nat.pow_add]
  exact Nat.mul_lt_mul'' h1 h2
theorem sz_pos {n : Nat} {x : Rat} (h : Sz n x) : 1 ≤ n := by
  rcases Nat.eq_zero_or_pos n with e | e
  · subst e
    have h2 := h.2
    have := x.den_pos
    simp at h2
    omega
  · exact e
theorem nat_abs_mul_lt {a b : Int} {n m : Nat} (h1 : a.natAbs < 2 ^ n) (h2 : b.natAbs < 2 ^ m) : (a * b).natAbs < 2 ^ (n + m) := by
  rw [Int.natAbs_mul]; exact mul_lt_pow h1 h2
theorem Sz.mul {n m : Nat} {x y : Rat} (hx : Sz n x) (hy : Sz m y) : Sz (n + m) (x * y) := by
  rw [← mul_divInt]
  refine sz_divInt (nat_abs_mul_lt hx.1 hy.1) (nat_abs_mul_lt (by simpa using hx.2) (by simpa using hy.2)) ?_
  have := sz_pos hx; omega
theorem Sz.div {n m : Nat} {x y : Rat} (hx : Sz n x) (hy : Sz m y) : Sz (n + m) (x / y) := by
  rw [← div_divInt]
  refine sz_divInt (nat_abs_mul_lt hx.1 (by simpa using hy.2)) (nat_abs_mul_lt (by simpa using hx.2) hy.1) ?_
  have := sz_pos hx; omega
theorem Sz.add {n m : Nat} {x y : Rat} (hx : Sz n x) (hy : Sz m y) : Sz (n + m + 1) (x + y) := by
  rw [← add_divInt]
  refine sz_divInt ?_ (Nat.lt_of_lt_of_le (nat_abs_mul_lt (n := n) (m := m) (by simpa using hx.2) (by simpa using hy.2)) (Nat.pow_le_pow_right (by omega) (by omega))) (by omega)
  have h1 := nat_abs_mul_lt hx.1 (b := y.den) (m := m) (by simpa using hy.2)
  have h2 := nat_abs_mul_lt hy.1 (b := x.den) (m := n) (by simpa using hx.2)
  rw [Nat.add_comm m n] at h2
  rw [Nat.pow_succ]
  omega
theorem Sz.neg {n : Nat} {x : Rat} (hx : Sz n x) : Sz n (-x) := ⟨by rw [Rat.neg_num, Int.natAbs_neg]; exact hx.1, by rw [Rat.neg_den]; exact hx.2⟩
theorem Sz.sub {n m : Nat} {x y : Rat} (hx : Sz n x) (hy : Sz m y) : Sz (n + m + 1) (x - y) := by
  rw [Rat.sub_eq_add_neg]; exact hx.add hy.neg
theorem sz_zero : Sz 1 0 := ⟨by decide, by decide⟩
theorem sz_one : Sz 1 1 := ⟨by decide, by decide⟩
/-- small enough for the machine's products -/
def Bd (x : Rat) : Prop := x.num.natAbs.log2 < 40000000 ∧ x.den.log2 < 40000000
theorem log2_lt {a n : Nat} (h : a < 2 ^ n) (h1 : 1 ≤ n) : a.log2 < n := by
  by_cases e : a = 0
  · subst e; simp; omega
  · exact (Nat.log2_lt e).mpr h
theorem Sz.bd {n : Nat} {x : Rat} (h : Sz n x) (hn : n ≤ 40000000) : Bd x := by
  have h1 := sz_pos h
  have a := log2_lt h.1 h1
  have b := log2_lt h.2 h1
  exact ⟨by omega, by omega⟩
/-! order -/
theorem num_lt_den {x : Rat} : x.num < x.den ↔ x < 1 := by rw [Rat.lt_iff]; simp
theorem neg_den_lt_num {x : Rat} : -(x.den : Int) < x.num ↔ -1 < x := by
  rw [Rat.lt_iff]
  show _ ↔ (-1 : Int) * _ < x.num * 1
  omega
theorem num_le_den {x : Rat} : x.num ≤ x.den ↔ x ≤ 1 := by rw [Rat.le_iff]; simp
theorem neg_den_le_num {x : Rat} : -(x.den : Int) ≤ x.num ↔ -1 ≤ x := by
  rw [Rat.le_iff]
  show _ ↔ (-1 : Int) * _ ≤ x.num * 1
  omega
theorem num_neg {x : Rat} : x.num < 0 ↔ x < 0 := by
  rw [← Rat.not_le, ← Rat.num_nonneg]; omega
theorem num_pos {x : Rat} : 0 < x.num ↔ 0 < x := by
  rw [Rat.lt_iff]; simp
end DL

/-! Turns, lifts, ladders' levels, as rationals. -/
namespace DL
def tn (a x : Rat) : Rat := (x - a) / (1 - a * x)
def lf (c t : Rat) : Rat := (c + t) / (1 + c * t)
def Pl (x : Rat) : Prop := -1 < x ∧ x < 1
def Lv (x : Rat) : Prop := -1 ≤ x ∧ x ≤ 1
instance (x : Rat) : Decidable (Pl x) := inferInstanceAs (Decidable (_ ∧ _))
instance (x : Rat) : Decidable (Lv x) := inferInstanceAs (Decidable (_ ∧ _))
theorem Pl.lv {x : Rat} (h : Pl x) : Lv x := ⟨Rat.le_of_lt h.1, Rat.le_of_lt h.2⟩
theorem Pl.neg {x : Rat} (h : Pl x) : Pl (-x) := ⟨by have := h.2; grind, by have := h.1; grind⟩
theorem Lv.neg {x : Rat} (h : Lv x) : Lv (-x) := ⟨by have := h.2; grind, by have := h.1; grind⟩
theorem pl_zero : Pl 0 := by decide
theorem one_sub_pos {a x : Rat} (ha : Pl a) (hx : Lv x) : 0 < 1 - a * x := by
  obtain ⟨a1, a2⟩ := ha
  obtain ⟨x1, x2⟩ := hx
  have h1 : 0 ≤ (1 - a) * (1 + x) := Rat.mul_nonneg (by grind) (by grind)
  have h2 : 0 ≤ (1 + a) * (1 - x) := Rat.mul_nonneg (by grind) (by grind)
  by_cases hx : x = 1
  · subst hx; grind
  · have h3 : 0 < (1 + a) * (1 - x) := Rat.mul_pos (by grind) (by grind)
    grind
theorem one_add_pos {c t : Rat} (hc : Pl c) (ht : Lv t) : 0 < 1 + c * t := by
  have := one_sub_pos hc.neg ht
  grind
theorem div_le_one {p q : Rat} (hq : 0 < q) (h : p ≤ q) : p / q ≤ 1 := by
  rw [← Rat.not_lt]
  intro h'
  rw [Rat.lt_div_iff hq] at h'
  grind
theorem neg_one_le_div {p q : Rat} (hq : 0 < q) (h : -q ≤ p) : -1 ≤ p / q := by
  rw [← Rat.not_lt]
  intro h'
  rw [Rat.div_lt_iff hq] at h'
  grind
theorem tn_lv {a x : Rat} (ha : Pl a) (hx : Lv x) : Lv (tn a x) := by
  have hq := one_sub_pos ha hx
  obtain ⟨a1, a2⟩ := ha
  obtain ⟨x1, x2⟩ := hx
  have h1 : 0 ≤ (1 - a) * (1 + x) := Rat.mul_nonneg (by grind) (by grind)
  have h2 : 0 ≤ (1 + a) * (1 - x) := Rat.mul_nonneg (by grind) (by grind)
  exact ⟨neg_one_le_div hq (by grind), div_le_one hq (by grind)⟩
theorem tn_pl {a x : Rat} (ha : Pl a) (hx : Pl x) : Pl (tn a x) := by
  have hq := one_sub_pos ha hx.lv
  obtain ⟨a1, a2⟩ := ha
  obtain ⟨x1, x2⟩ := hx
  have h1 : 0 < (1 - a) * (1 + x) := Rat.mul_pos (by grind) (by grind)
  have h2 : 0 < (1 + a) * (1 - x) := Rat.mul_pos (by grind) (by grind)
  refine ⟨?_, ?_⟩
  · show _ < _ / _
    rw [Rat.lt_div_iff hq]; grind
  · show _ / _ < _
    rw [Rat.div_lt_iff hq]; grind
theorem lf_lv {c t : Rat} (hc : Pl c) (ht : Lv t) : Lv (lf c t) := by
  have := tn_lv hc.neg ht
  have e : lf c t = tn (-c) t := by
    unfold lf tn
    rw [show t - -c = c + t by grind, show 1 - -c * t = 1 + c * t by grind]
  rw [e]; exact this
theorem lf_pl {c t : Rat} (hc : Pl c) (ht : Pl t) : Pl (lf c t) := by
  have := tn_pl hc.neg ht
  have e : lf c t = tn (-c) t := by
    unfold lf tn
    rw [show t - -c = c + t by grind, show 1 - -c * t = 1 + c * t by grind]
  rw [e]; exact this
theorem lv_mul {x y : Rat} (hx : Lv x) (hy : Lv y) : Lv (x * y) := by
  obtain ⟨x1, x2⟩ := hx
  obtain ⟨y1, y2⟩ := hy
  have h1 : 0 ≤ (1 - x) * (1 + y) := Rat.mul_nonneg (by grind) (by grind)
  have h2 : 0 ≤ (1 + x) * (1 - y) := Rat.mul_nonneg (by grind) (by grind)
  have h3 : 0 ≤ (1 - x) * (1 - y) := Rat.mul_nonneg (by grind) (by grind)
  have h4 : 0 ≤ (1 + x) * (1 + y) := Rat.mul_nonneg (by grind) (by grind)
  exact ⟨by grind, by grind⟩
theorem div_eq {a b c : Rat} (hb : b ≠ 0) : a / b = c ↔ a = c * b := by
  constructor
  · rintro rfl; grind
  · rintro rfl; grind
theorem tn_lf {c t : Rat} (hc : Pl c) (ht : Lv t) : tn c (lf c t) = t := by
  have h1 := one_add_pos hc ht
  have h2 := one_sub_pos hc hc.lv
  have hu : lf c t * (1 + c * t) = c + t := (((div_eq (by grind)).mp (rfl : (c + t) / (1 + c * t) = lf c t))).symm
  generalize lf c t = u at hu
  have h3 : (1 - c * u) * (1 + c * t) = 1 - c * c := by grind
  have h4 : 1 - c * u ≠ 0 := by grind
  exact (div_eq h4).mpr (by grind)
theorem lf_tn {c v : Rat} (hc : Pl c) (hv : Lv v) : lf c (tn c v) = v := by
  have h1 := one_sub_pos hc hv
  have h2 := one_sub_pos hc hc.lv
  have hu : tn c v * (1 - c * v) = v - c := (((div_eq (by grind)).mp (rfl : (v - c) / (1 - c * v) = tn c v))).symm
  generalize tn c v = u at hu
  have h3 : (1 + c * u) * (1 - c * v) = 1 - c * c := by grind
  have h4 : 1 + c * u ≠ 0 := by grind
  exact (div_eq h4).mpr (by grind)
theorem tn_zero_iff {a x : Rat} (ha : Pl a) (hx : Lv x) : tn a x = 0 ↔ x = a := by
  have h1 := one_sub_pos ha hx
  unfold tn
  constructor
  · intro h
    have : x - a = 0 := by grind
    grind
  · rintro rfl
    grind
/-- a ladder's level -/
def val (x : Rat) : List (Rat × Rat) → Rat → Rat
  | [], l => l
  | s :: r, l => lf s.2 (tn s.1 x * val x r l)
def stepsOk (s : List (Rat × Rat)) : Prop := ∀ p ∈ s, Pl p.1 ∧ Pl p.2
theorem val_lv {x : Rat} (hx : Lv x) : ∀ {s : List (Rat × Rat)} {l : Rat}, stepsOk s → Lv l → Lv (val x s l)
  | [], l, _, hl => hl
  | p :: r, l, hs, hl => lf_lv (hs p List.mem_cons_self).2 (lv_mul (tn_lv (hs p List.mem_cons_self).1 hx) (val_lv hx (fun q hq => hs q (List.mem_cons_of_mem _ hq)) hl))
theorem val_foldr (x : Rat) (l : Rat) : ∀ s : List (Rat × Rat), val x s l = s.foldr (fun p v => lf p.2 (tn p.1 x * v)) l
  | [] => rfl
  | p :: r => by rw [val, val_foldr x l r]; rfl
/-! sizes -/
theorem den_ne0 (x : Rat) : (x.den : Rat) ≠ 0 := by
  have := x.den_pos
  intro h
  have h : ((x.den : Nat) : Rat) = ((0 : Nat) : Rat) := h
  rw [Rat.natCast_inj] at h
  omega
theorem mul_num (x : Rat) : x * (x.den : Rat) = (x.num : Rat) := by
  have h := Rat.divInt_eq_div x.num x.den
  rw [Rat.num_divInt_den] at h
  have h2 := den_ne0 x
  rw [Rat.intCast_natCast] at h
  exact ((div_eq h2).mp h.symm).symm
theorem divInt_cross {p q : Int} {u v k : Rat} (hk : k ≠ 0) (hp : (p : Rat) = u * k) (hq : (q : Rat) = v * k) : Rat.divInt p q = u / v := by
  rw [Rat.divInt_eq_div, hp, hq]
  by_cases hv : v = 0
  · subst hv; rw [Rat.zero_mul, Rat.div_def, Rat.div_def, Rat.inv_zero, Rat.mul_zero, Rat.mul_zero]
  · have h : v * k ≠ 0 := by grind
    rw [div_eq h]
    grind
theorem tn_divInt (a x : Rat) : Rat.divInt (x.num * a.den - a.num * x.den) (a.den * x.den - a.num * x.num) = tn a x := by
  refine divInt_cross (k := (a.den : Rat) * x.den) ?_ ?_ ?_
  · have h1 := den_ne0 a
    have h2 := den_ne0 x
    grind
  · have h1 := mul_num a
    have h2 := mul_num x
    simp only [Rat.intCast_sub, Rat.intCast_mul, Rat.intCast_natCast]
    grind
  · have h1 := mul_num a
    have h2 := mul_num x
    simp only [Rat.intCast_sub, Rat.intCast_mul, Rat.intCast_natCast]
    grind
theorem Sz.tn {n m : Nat} {a x : Rat} (ha : Sz n a) (hx : Sz m x) : Sz (n + m + 1) (tn a x) := by
  rw [← tn_divInt]
  have h1 := nat_abs_mul_lt hx.1 (b := a.den) (m := n) (by simpa using ha.2)
  have h2 := nat_abs_mul_lt ha.1 (b := x.den) (m := m) (by simpa using hx.2)
  have h3 := nat_abs_mul_lt (a := a.den) (b := x.den) (n := n) (m := m) (by simpa using ha.2) (by simpa using hx.2)
  have h4 := nat_abs_mul_lt ha.1 hx.1
  rw [Nat.add_comm m n] at h1
  refine sz_divInt ?_ ?_ (by omega)
  · rw [Nat.pow_succ]; omega
  · rw [Nat.pow_succ]; omega
theorem lf_tn_neg (c t : Rat) : DL.lf c t = DL.tn (-c) t := by
  unfold DL.lf DL.tn
  rw [show t - -c = c + t by grind, show 1 - -c * t = 1 + c * t by grind]
theorem Sz.lf {n m : Nat} {c t : Rat} (hc : Sz n c) (ht : Sz m t) : Sz (n + m + 1) (lf c t) := by
  rw [lf_tn_neg]; exact hc.neg.tn ht
/-- sizes along a ladder -/
def vsz (n m : Nat) : List Nat → Nat
  | [] => m
  | c :: r => 2 * n + c + vsz n m r + 2
def szs (n : Nat) : List (Rat × Rat) → List Nat → Prop
  | [], [] => True
  | p :: r, c :: cs => Sz n p.1 ∧ Sz c p.2 ∧ szs n r cs
  | _, _ => False
theorem val_sz {n m : Nat} {x : Rat} (hx : Sz n x) : ∀ {s : List (Rat × Rat)} {cs : List Nat} {l : Rat}, szs n s cs → Sz m l → Sz (vsz n m cs) (val x s l)
  | [], [], l, _, hl => hl
  | p :: r, c :: cs, l, hs, hl => by
    obtain ⟨h1, h2, h3⟩ := hs
    have ih := val_sz hx h3 hl
    refine (h2.lf ((h1.tn hx).mul ih)).mono ?_
    show _ ≤ 2 * n + c + vsz n m cs + 2
    omega
  | [], _ :: _, _, h, _ => h.elim
  | _ :: _, [], _, h, _ => h.elim
end DL

/-! Ladders of points, as the program makes them. -/
namespace DL
/-- what stands behind a step -/
def nxt (a c : Rat) (r : List (Rat × Rat)) : List (Rat × Rat) := r.map fun p => (p.1, tn c p.2 / tn a p.1)
theorem nxt_len (a c : Rat) (r : List (Rat × Rat)) : (nxt a c r).length = r.length := List.length_map ..
def isPM (c : Rat) : Prop := c = 1 ∨ c = -1
instance (c : Rat) : Decidable (isPM c) := inferInstanceAs (Decidable (_ ∨ _))
def ladOf : (l : List (Rat × Rat)) → Option (List (Rat × Rat) × Rat)
  | [] => some ([], 0)
  | p :: r => if isPM p.2 then (if ∀ q ∈ r, q.2 = p.2 then some ([], p.2) else none) else
      if ∀ q ∈ nxt p.1 p.2 r, Lv q.2 then (match ladOf (nxt p.1 p.2 r) with | some (s, l) => some (p :: s, l) | none => none) else none
termination_by l => l.length
decreasing_by rw [nxt_len]; simp
/-- points: places within, apart from one another, levels -/
structure PtsOk (l : List (Rat × Rat)) : Prop where
  pl : ∀ p ∈ l, Pl p.1
  ne : (l.map (·.1)).Nodup
  lv : ∀ p ∈ l, Lv p.2
theorem lv_pl {c : Rat} (h : Lv c) (h1 : ¬ isPM c) : Pl c := by
  unfold isPM at h1
  obtain ⟨a, b⟩ := h
  exact ⟨by grind, by grind⟩
theorem nxt_ok {p : Rat × Rat} {r : List (Rat × Rat)} (h : PtsOk (p :: r)) (hl : ∀ q ∈ nxt p.1 p.2 r, Lv q.2) : PtsOk (nxt p.1 p.2 r) := by
  have h2 := h.ne
  rw [List.map_cons, List.nodup_cons] at h2
  refine ⟨fun q hq => ?_, ?_, hl⟩
  · obtain ⟨q', h3, rfl⟩ := List.mem_map.mp hq
    exact h.pl q' (List.mem_cons_of_mem _ h3)
  · unfold nxt
    rw [List.map_map]
    exact h2.2
theorem head_ne {p : Rat × Rat} {r : List (Rat × Rat)} (h : PtsOk (p :: r)) {q : Rat × Rat} (hq : q ∈ r) : tn p.1 q.1 ≠ 0 := by
  have h2 := h.ne
  rw [List.map_cons, List.nodup_cons] at h2
  intro e
  have := (tn_zero_iff (h.pl p List.mem_cons_self) (h.pl q (List.mem_cons_of_mem _ hq)).lv).mp e
  exact h2.1 (List.mem_map.mpr ⟨q, hq, this⟩)
/-- sizes along the making of a ladder -/
def lsz (n : Nat) : Nat → Nat → Nat
  | m, 0 => m
  | m, k + 1 => lsz n (2 * n + 2 * m + 2) k
theorem lsz_ge (n : Nat) : ∀ (k m : Nat), m ≤ lsz n m k
  | 0, m => Nat.le_refl _
  | k + 1, m => Nat.le_trans (by omega) (lsz_ge n k (2 * n + 2 * m + 2))
theorem nxt_sz {n m : Nat} {a c : Rat} {r : List (Rat × Rat)} (ha : Sz n a) (hc : Sz m c) (h : ∀ q ∈ r, Sz n q.1 ∧ Sz m q.2) : ∀ q ∈ nxt a c r, Sz n q.1 ∧ Sz (2 * n + 2 * m + 2) q.2 := by
  intro q hq
  obtain ⟨q', h3, rfl⟩ := List.mem_map.mp hq
  obtain ⟨h4, h5⟩ := h q' h3
  exact ⟨h4, ((hc.tn h5).div (ha.tn h4)).mono (by omega)⟩
end DL

/-! What the program reckons of points: can they be told, the range at a place, the points with one more. -/
namespace DL
theorem lsz_eq (n : Nat) : ∀ (k m : Nat), lsz n m k + (2 * n + 2) = 2 ^ k * (m + (2 * n + 2))
  | 0, m => by rw [lsz]; omega
  | k + 1, m => by
    rw [lsz, lsz_eq n k, Nat.pow_succ, Nat.mul_assoc]
    congr 1
    omega
/-- right points with sizes: places n, levels m -/
structure PZ (n m : Nat) (pts : List (Rat × Rat)) : Prop where
  len : pts.length ≤ 100
  ok : PtsOk pts
  sz : ∀ p ∈ pts, Sz n p.1 ∧ Sz m p.2
  n1 : n ≤ 1000000
  big : lsz n m pts.length ≤ 8000000
def tell (pts : List (Rat × Rat)) : Bool := (ladOf pts).isSome
/-- sizes of a ladder's levels -/
def lszs (n : Nat) : Nat → Nat → List Nat
  | _, 0 => []
  | m, k + 1 => m :: lszs n (2 * n + 2 * m + 2) k
theorem vsz_lszs (n : Nat) : ∀ (k m : Nat), vsz n 1 (lszs n m k) + m = lsz n m k + 1
  | 0, m => by rw [lszs, vsz, lsz]; omega
  | k + 1, m => by
    have := vsz_lszs n k (2 * n + 2 * m + 2)
    rw [lszs, vsz, lsz]
    omega
theorem lsz_mono (n : Nat) : ∀ {j k : Nat} (m : Nat), j ≤ k → lsz n m j ≤ lsz n m k
  | 0, k, m, _ => lsz_ge n k m
  | j + 1, 0, m, h => by omega
  | j + 1, k + 1, m, h => by rw [lsz, lsz]; exact lsz_mono n _ (by omega)
/-- what a ladder of points is like -/
theorem ladOf_like {n : Nat} : ∀ (k m : Nat) {pts : List (Rat × Rat)} {s : List (Rat × Rat)} {l : Rat}, pts.length = k → PtsOk pts → (∀ p ∈ pts, Sz n p.1 ∧ Sz m p.2) → ladOf pts = some (s, l) →
    stepsOk s ∧ (l = 0 ∨ isPM l) ∧ s.length ≤ k ∧ szs n s (lszs n m s.length)
  | 0, m, pts, s, l, hk, ok, sz, e => by
    obtain rfl := List.length_eq_zero_iff.mp hk
    rw [ladOf] at e
    cases e
    exact ⟨(fun p h => by cases h), .inl rfl, Nat.le_refl _, True.intro⟩
  | k + 1, m, [], s, l, hk, ok, sz, e => by simp at hk
  | k + 1, m, p :: r, s, l, hk, ok, sz, e => by
    rw [ladOf] at e
    obtain ⟨sp1, sp2⟩ := sz p List.mem_cons_self
    by_cases hpm : isPM p.2
    · rw [if_pos hpm] at e
      split at e
      · cases e
        exact ⟨(fun p h => by cases h), .inr hpm, Nat.zero_le _, True.intro⟩
      · cases e
    · rw [if_neg hpm] at e
      split at e
      · rename_i hl
        split at e
        · rename_i s' l' e'
          cases e
          obtain ⟨h1, h2, h3, h4⟩ := ladOf_like k (2 * n + 2 * m + 2) (by rw [nxt_len]; simpa using hk) (nxt_ok ok hl) (nxt_sz sp1 sp2 fun q hq => sz q (List.mem_cons_of_mem _ hq)) e'
          refine ⟨fun q hq => ?_, h2, by simp; omega, sp1, sp2, h4⟩
          rcases List.mem_cons.mp hq with rfl | hq
          · exact ⟨ok.pl _ List.mem_cons_self, lv_pl (ok.lv _ List.mem_cons_self) hpm⟩
          · exact h1 q hq
        · cases e
      · cases e
theorem szs_all {n : Nat} : ∀ {s : List (Rat × Rat)} {cs : List Nat} {N : Nat}, szs n s cs → vsz n 1 cs ≤ N → n ≤ N → ∀ p ∈ s, Sz N p.1 ∧ Sz N p.2
  | p :: r, c :: cs, N, h, hN, hn, q, hq => by
    obtain ⟨h1, h2, h3⟩ := h
    rw [vsz] at hN
    rcases List.mem_cons.mp hq with rfl | hq
    · exact ⟨h1.mono hn, h2.mono (by omega)⟩
    · exact szs_all h3 (by omega) hn q hq
  | [], _, _, _, _, _, q, hq => by cases hq
  | _ :: _, [], _, h, _, _, _, _ => h.elim
theorem szs_drop {n m : Nat} {x : Rat} (hx : Sz n x) : ∀ {s : List (Rat × Rat)} {cs : List Nat} {N : Nat} {l : Rat}, szs n s cs → Sz m l → vsz n m cs ≤ N → ∀ k, Sz N (val x (s.drop k) l)
  | s, cs, N, l, h, hl, hN, 0 => by rw [List.drop_zero]; exact (val_sz hx h hl).mono hN
  | [], cs, N, l, h, hl, hN, k + 1 => by rw [List.drop_nil]; cases cs with
    | nil => exact hl.mono hN
    | cons _ _ => exact h.elim
  | p :: r, [], N, l, h, hl, hN, k + 1 => h.elim
  | p :: r, c :: cs, N, l, h, hl, hN, k + 1 => by
    rw [List.drop_succ_cons]
    rw [vsz] at hN
    exact szs_drop hx h.2.2 hl (by omega) k
theorem sz_pm {l : Rat} (h : l = 0 ∨ isPM l) : Sz 1 l := by
  rcases h with rfl | rfl | rfl
  · exact sz_zero
  · exact sz_one
  · exact sz_one.neg
theorem lv_pm {l : Rat} (h : l = 0 ∨ isPM l) : Lv l := by
  rcases h with rfl | rfl | rfl <;> decide
theorem isPM_one : isPM 1 := .inl rfl
theorem isPM_neg : isPM (-1) := .inr rfl
/-- the two ends' levels -/
def endL (s : List (Rat × Rat)) (l x : Rat) : Rat × Rat := if isPM l then (l, l) else if val x s 1 < val x s (-1) then (1, -1) else (-1, 1)
theorem endL_pm (s : List (Rat × Rat)) (l x : Rat) : isPM (endL s l x).1 ∧ isPM (endL s l x).2 := by
  unfold endL
  split
  · exact ⟨by assumption, by assumption⟩
  · split
    · exact ⟨isPM_one, isPM_neg⟩
    · exact ⟨isPM_neg, isPM_one⟩
def rng (pts : List (Rat × Rat)) (x : Rat) : Rat × Rat := match ladOf pts with
  | some (s, l) => (val x s (endL s l x).1, val x s (endL s l x).2)
  | none => (0, 0)
def wp (pts : List (Rat × Rat)) (x v : Rat) : List (Rat × Rat) := pts.filter (fun p => decide (p.1 < x)) ++ [(x, v)] ++ pts.filter (fun p => decide (x < p.1))
theorem filt_perm {x : Rat} : ∀ {pts : List (Rat × Rat)}, (∀ p ∈ pts, p.1 ≠ x) → (pts.filter (fun p => decide (p.1 < x)) ++ pts.filter (fun p => decide (x < p.1))).Perm pts
  | [], _ => .refl _
  | p :: r, h => by
    have ih := filt_perm (pts := r) fun q hq => h q (List.mem_cons_of_mem _ hq)
    have hp := h p List.mem_cons_self
    by_cases h1 : p.1 < x
    · rw [List.filter_cons_of_pos (by simpa using h1), List.filter_cons_of_neg (by simp; grind)]
      exact ih.cons p
    · rw [List.filter_cons_of_neg (by simpa using h1), List.filter_cons_of_pos (by simp; grind)]
      exact List.perm_middle.trans (ih.cons p)
theorem wp_perm {pts : List (Rat × Rat)} {x v : Rat} (h : ∀ p ∈ pts, p.1 ≠ x) : (wp pts x v).Perm ((x, v) :: pts) := by
  unfold wp
  rw [List.append_assoc]
  exact List.perm_middle.trans ((filt_perm h).cons _)
theorem PtsOk.perm {a b : List (Rat × Rat)} (h : a.Perm b) (ok : PtsOk a) : PtsOk b :=
  ⟨fun p hp => ok.pl p (h.mem_iff.mpr hp), (h.map _).nodup_iff.mp ok.ne, fun p hp => ok.lv p (h.mem_iff.mpr hp)⟩
theorem PtsOk.add {a : List (Rat × Rat)} {x v : Rat} (ok : PtsOk a) (h : ∀ p ∈ a, p.1 ≠ x) (hx : Pl x) (hv : Lv v) : PtsOk ((x, v) :: a) := by
  refine ⟨fun p hp => ?_, ?_, fun p hp => ?_⟩
  · rcases List.mem_cons.mp hp with rfl | hp
    · exact hx
    · exact ok.pl p hp
  · rw [List.map_cons, List.nodup_cons]
    refine ⟨fun q => ?_, ok.ne⟩
    obtain ⟨p, hp, e⟩ := List.mem_map.mp q
    exact h p hp e
  · rcases List.mem_cons.mp hp with rfl | hp
    · exact hv
    · exact ok.lv p hp
end DL

/-! Quadratic forms over lists; what can be told is what has no negative form. -/
namespace DL
def sm {α : Type} (f : α → Rat) : List α → Rat
  | [] => 0
  | a :: r => f a + sm f r
section
variable {α β : Type}
theorem sm_perm {f : α → Rat} {l m : List α} (h : l.Perm m) : sm f l = sm f m := by
  induction h with
  | nil => rfl
  | cons a _ ih => rw [sm, sm, ih]
  | swap a b l => simp only [sm]; grind
  | trans _ _ h1 h2 => rw [h1, h2]
theorem sm_congr {f g : α → Rat} : ∀ {l : List α}, (∀ a ∈ l, f a = g a) → sm f l = sm g l
  | [], _ => rfl
  | a :: r, h => by rw [sm, sm, h a List.mem_cons_self, sm_congr fun b hb => h b (List.mem_cons_of_mem _ hb)]
theorem sm_add {f g : α → Rat} : ∀ {l : List α}, sm (fun a => f a + g a) l = sm f l + sm g l
  | [] => by simp [sm, Rat.add_zero]
  | a :: r => by simp only [sm]; rw [sm_add]; grind
theorem sm_mul {c : Rat} {f : α → Rat} : ∀ {l : List α}, sm (fun a => c * f a) l = c * sm f l
  | [] => by simp [sm]
  | a :: r => by simp only [sm]; rw [sm_mul]; grind
theorem sm_zero : ∀ {l : List α}, sm (fun _ => 0) l = 0
  | [] => rfl
  | a :: r => by rw [sm, sm_zero, Rat.add_zero]
theorem sm_map {f : β → Rat} {g : α → β} : ∀ {l : List α}, sm f (l.map g) = sm (fun a => f (g a)) l
  | [] => rfl
  | a :: r => by rw [List.map_cons, sm, sm, sm_map]
theorem sm_app {f : α → Rat} : ∀ {l m : List α}, sm f (l ++ m) = sm f l + sm f m
  | [], m => by rw [List.nil_append, sm, Rat.zero_add]
  | a :: r, m => by rw [List.cons_append, sm, sm, sm_app]; grind
/-- the form of a kernel -/
def qK (K : α → α → Rat) (u : α → Rat) (l : List α) : Rat := sm (fun p => sm (fun q => u p * u q * K p q) l) l
theorem qK_perm {K : α → α → Rat} {u : α → Rat} {l m : List α} (h : l.Perm m) : qK K u l = qK K u m := by
  unfold qK
  rw [sm_perm h]
  exact sm_congr fun a _ => sm_perm h
theorem qK_congr {K L : α → α → Rat} {u v : α → Rat} {l : List α} (hu : ∀ a ∈ l, u a = v a) (hK : ∀ a ∈ l, ∀ b ∈ l, K a b = L a b) : qK K u l = qK L v l := by
  unfold qK
  exact sm_congr fun a ha => sm_congr fun b hb => by rw [hu a ha, hu b hb, hK a ha b hb]
theorem qK_map {K : β → β → Rat} {u : β → Rat} {f : α → β} {l : List α} : qK K u (l.map f) = qK (fun a b => K (f a) (f b)) (fun a => u (f a)) l := by
  unfold qK
  rw [sm_map]
  exact sm_congr fun a _ => sm_map
theorem qK_add {K L : α → α → Rat} {u : α → Rat} {l : List α} : qK (fun a b => K a b + L a b) u l = qK K u l + qK L u l := by
  unfold qK
  rw [← sm_add]
  refine sm_congr fun a _ => ?_
  rw [← sm_add]
  exact sm_congr fun b _ => by grind
theorem qK_mul {c : Rat} {K : α → α → Rat} {u : α → Rat} {l : List α} : qK (fun a b => c * K a b) u l = c * qK K u l := by
  unfold qK
  rw [← sm_mul]
  refine sm_congr fun a _ => ?_
  rw [← sm_mul]
  exact sm_congr fun b _ => by grind
/-- a scaled kernel is a scaled weight -/
theorem qK_scale {d : α → Rat} {K : α → α → Rat} {u : α → Rat} {l : List α} : qK (fun a b => d a * d b * K a b) u l = qK K (fun a => u a * d a) l := by
  unfold qK
  exact sm_congr fun a _ => sm_congr fun b _ => by grind
theorem qK_one {e : α → Rat} {u : α → Rat} {l : List α} : qK (fun a b => e a * e b) u l = sm (fun a => u a * e a) l * sm (fun a => u a * e a) l := by
  unfold qK
  rw [← sm_mul]
  refine sm_congr fun a _ => ?_
  rw [Rat.mul_comm, ← sm_mul]
  exact sm_congr fun b _ => by grind
theorem qK_cons {K : α → α → Rat} (hK : ∀ a b, K a b = K b a) {u : α → Rat} {p : α} {r : List α} : qK K u (p :: r) = u p * u p * K p p + 2 * (u p * sm (fun q => u q * K p q) r) + qK K u r := by
  unfold qK
  simp only [sm]
  rw [sm_add]
  have h1 : sm (fun q => u p * u q * K p q) r = u p * sm (fun q => u q * K p q) r := by
    rw [← sm_mul]; exact sm_congr fun b _ => by grind
  have h2 : sm (fun q => u q * u p * K q p) r = u p * sm (fun q => u q * K p q) r := by
    rw [← sm_mul]; exact sm_congr fun b _ => by rw [hK b p]; grind
  rw [h1, h2]
  grind
theorem sq_nonneg (x : Rat) : 0 ≤ x * x := by
  rcases Rat.le_total (a := 0) (b := x) with h | h
  · exact Rat.mul_nonneg h h
  · have := Rat.mul_nonneg (show (0 : Rat) ≤ -x by grind) (show (0 : Rat) ≤ -x by grind)
    grind
theorem sq_zero {x : Rat} (h : x * x = 0) : x = 0 := by
  rcases Rat.mul_eq_zero.mp h with h | h <;> exact h
/-- no negative form -/
def PsdK (K : α → α → Rat) (l : List α) : Prop := ∀ u : α → Rat, 0 ≤ qK K u l
theorem PsdK.perm {K : α → α → Rat} {l m : List α} (h : l.Perm m) (q : PsdK K l) : PsdK K m := fun u => by rw [← qK_perm h]; exact q u
theorem qK_app0 {K : α → α → Rat} {u : α → Rat} {s t : List α} (h : ∀ a ∈ t, u a = 0) : qK K u (s ++ t) = qK K u s := by
  have z : ∀ f : α → Rat, (∀ a ∈ t, f a = 0) → sm f t = 0 := fun f hf => (sm_congr hf).trans sm_zero
  unfold qK
  rw [sm_app, z _ (fun a ha => (sm_congr fun b _ => by rw [h a ha]; grind).trans sm_zero), Rat.add_zero]
  refine sm_congr fun a _ => ?_
  rw [sm_app, z _ (fun b hb => by rw [h b hb]; grind), Rat.add_zero]
theorem PsdK.left [DecidableEq α] {K : α → α → Rat} {s t : List α} (h : ∀ a ∈ s, a ∉ t) (q : PsdK K (s ++ t)) : PsdK K s := fun u => by
  have := q fun a => if a ∈ t then 0 else u a
  rw [qK_app0 (fun a ha => if_pos ha)] at this
  rwa [qK_congr (v := u) (fun a ha => if_neg (h a ha)) (fun _ _ _ _ => rfl)] at this
end
/-- Pick's kernel -/
def ker (p q : Rat × Rat) : Rat := (1 - p.2 * q.2) / (1 - p.1 * q.1)
theorem ker_comm (p q : Rat × Rat) : ker p q = ker q p := by
  unfold ker
  rw [Rat.mul_comm p.2, Rat.mul_comm p.1]
abbrev Psd (l : List (Rat × Rat)) : Prop := PsdK ker l
theorem mul_right_cancel_rat {a b c : Rat} (h : c ≠ 0) (e : a * c = b * c) : a = b := by
  have : a * c / c = b * c / c := by rw [e]
  rwa [Rat.mul_div_cancel h, Rat.mul_div_cancel h] at this
/-- the step's identity -/
theorem ker_step {a c x w x' w' : Rat} (hA : 1 - a * x ≠ 0) (hA' : 1 - a * x' ≠ 0) (hC : 1 - c * w ≠ 0) (hC' : 1 - c * w' ≠ 0) (hX : 1 - x * x' ≠ 0) (hN : 1 - a * a ≠ 0) (hM : 1 - c * c ≠ 0) (hb : tn a x ≠ 0) (hb' : tn a x' ≠ 0) :
    ker (x, w) (x', w') = (1 - a * a) / (1 - c * c) * ((1 - c * w) / (1 - a * x) * ((1 - c * w') / (1 - a * x'))) + 1 / (1 - c * c) * (tn a x * (1 - c * w) * (tn a x' * (1 - c * w')) * ker (x, tn c w / tn a x) (x', tn c w' / tn a x')) := by
  have e1 : tn a x * (1 - a * x) = x - a := ((div_eq hA).mp rfl).symm
  have e2 : tn a x' * (1 - a * x') = x' - a := ((div_eq hA').mp rfl).symm
  have e3 : tn c w * (1 - c * w) = w - c := ((div_eq hC).mp rfl).symm
  have e4 : tn c w' * (1 - c * w') = w' - c := ((div_eq hC').mp rfl).symm
  generalize tn a x = b at *
  generalize tn a x' = b' at *
  generalize tn c w = t at *
  generalize tn c w' = t' at *
  have e5 : t / b * b = t := ((div_eq hb).mp rfl).symm
  have e6 : t' / b' * b' = t' := ((div_eq hb').mp rfl).symm
  generalize t / b = z at *
  generalize t' / b' = z' at *
  unfold ker
  show (1 - w * w') / (1 - x * x') = _ + _ * (_ * ((1 - z * z') / (1 - x * x')))
  rw [div_eq hX]
  have e7 : (1 - z * z') / (1 - x * x') * (1 - x * x') = 1 - z * z' := ((div_eq hX).mp rfl).symm
  generalize (1 - z * z') / (1 - x * x') = k at *
  have e8 : (1 - c * w) / (1 - a * x) * (1 - a * x) = 1 - c * w := ((div_eq hA).mp rfl).symm
  have e9 : (1 - c * w') / (1 - a * x') * (1 - a * x') = 1 - c * w' := ((div_eq hA').mp rfl).symm
  generalize (1 - c * w) / (1 - a * x) = g at *
  generalize (1 - c * w') / (1 - a * x') = g' at *
  have f1 : (1 - a * a) / (1 - c * c) * (1 - c * c) = 1 - a * a := ((div_eq hM).mp rfl).symm
  have f2 : 1 / (1 - c * c) * (1 - c * c) = 1 := ((div_eq hM).mp rfl).symm
  generalize (1 - a * a) / (1 - c * c) = m at *
  generalize 1 / (1 - c * c) = o at *
  have r1 : (m * (g * g')) * ((1 - a * x) * (1 - a * x') * (1 - c * c)) = (1 - a * a) * ((1 - c * w) * (1 - c * w')) := by
    have : (m * (g * g')) * ((1 - a * x) * (1 - a * x') * (1 - c * c)) = (m * (1 - c * c)) * ((g * (1 - a * x)) * (g' * (1 - a * x'))) := by grind
    rw [this, f1, e8, e9]
  have r2 : (o * (b * (1 - c * w) * (b' * (1 - c * w')) * k)) * ((1 - a * x) * (1 - a * x') * (1 - c * c)) = (x - a) * (x' - a) * ((1 - c * w) * (1 - c * w')) * k := by
    have : (o * (b * (1 - c * w) * (b' * (1 - c * w')) * k)) * ((1 - a * x) * (1 - a * x') * (1 - c * c)) = (o * (1 - c * c)) * ((b * (1 - a * x)) * (b' * (1 - a * x'))) * ((1 - c * w) * (1 - c * w')) * k := by grind
    rw [this, f2, e1, e2]
    grind
  have r3 : (x - a) * (x' - a) * ((1 - c * w) * (1 - c * w')) * (z * z') = (1 - a * x) * (1 - a * x') * ((w - c) * (w' - c)) := by
    have : (x - a) * (x' - a) * ((1 - c * w) * (1 - c * w')) * (z * z') = (1 - a * x) * (1 - a * x') * (((z * b) * (1 - c * w)) * ((z' * b') * (1 - c * w'))) := by rw [← e1, ← e2]; grind
    rw [this, e5, e6, e3, e4]
  have hne : (1 - a * x) * (1 - a * x') * (1 - c * c) ≠ 0 := by
    intro h
    rcases Rat.mul_eq_zero.mp h with h | h
    · rcases Rat.mul_eq_zero.mp h with h | h
      · exact hA h
      · exact hA' h
    · exact hM h
  have key : (1 - w * w') * ((1 - a * x) * (1 - a * x') * (1 - c * c)) = ((m * (g * g') + o * (b * (1 - c * w) * (b' * (1 - c * w')) * k)) * (1 - x * x')) * ((1 - a * x) * (1 - a * x') * (1 - c * c)) := by
    have : ((m * (g * g') + o * (b * (1 - c * w) * (b' * (1 - c * w')) * k)) * (1 - x * x')) * ((1 - a * x) * (1 - a * x') * (1 - c * c)) = (1 - a * a) * ((1 - c * w) * (1 - c * w')) * (1 - x * x') + (x - a) * (x' - a) * ((1 - c * w) * (1 - c * w')) * (k * (1 - x * x')) := by
      have : ((m * (g * g') + o * (b * (1 - c * w) * (b' * (1 - c * w')) * k)) * (1 - x * x')) * ((1 - a * x) * (1 - a * x') * (1 - c * c)) = (m * (g * g')) * ((1 - a * x) * (1 - a * x') * (1 - c * c)) * (1 - x * x') + (o * (b * (1 - c * w) * (b' * (1 - c * w')) * k)) * ((1 - a * x) * (1 - a * x') * (1 - c * c)) * (1 - x * x') := by grind
      rw [this, r1, r2]
      grind
    rw [this, e7]
    have : (x - a) * (x' - a) * ((1 - c * w) * (1 - c * w')) * (1 - z * z') = (x - a) * (x' - a) * ((1 - c * w) * (1 - c * w')) - (x - a) * (x' - a) * ((1 - c * w) * (1 - c * w')) * (z * z') := by grind
    rw [this, r3]
    clear r1 r2 r3 this e1 e2 e3 e4 e5 e6 e7 e8 e9 f1 f2
    grind
  have := mul_right_cancel_rat hne key
  exact this
end DL

namespace DL
theorem lift_w {α β : Type} [DecidableEq β] {f : α → β} (v : α → Rat) : ∀ {l : List α}, (l.map f).Nodup → ∃ w : β → Rat, ∀ a ∈ l, w (f a) = v a
  | [], _ => ⟨fun _ => 0, fun a h => by cases h⟩
  | a :: r, h => by
    rw [List.map_cons, List.nodup_cons] at h
    obtain ⟨w, hw⟩ := lift_w v h.2
    refine ⟨fun b => if b = f a then v a else w b, fun b hb => ?_⟩
    rcases List.mem_cons.mp hb with rfl | hb
    · exact if_pos rfl
    · show (if f b = f a then v a else w (f b)) = v b
      rw [if_neg (fun e : f b = f a => h.1 (e ▸ List.mem_map.mpr ⟨b, hb, rfl⟩))]
      exact hw b hb
/-- a step of the making of a ladder -/
def stp (a c : Rat) (q : Rat × Rat) : Rat × Rat := (q.1, tn c q.2 / tn a q.1)
def stg (a c : Rat) (q : Rat × Rat) : Rat := (1 - c * q.2) / (1 - a * q.1)
def std (a c : Rat) (q : Rat × Rat) : Rat := tn a q.1 * (1 - c * q.2)
theorem nxt_map (a c : Rat) (r : List (Rat × Rat)) : nxt a c r = r.map (stp a c) := rfl
theorem nodup_of_fst {l : List (Rat × Rat)} (h : (l.map (·.1)).Nodup) : l.Nodup := by
  rw [List.nodup_iff_pairwise_ne, List.pairwise_map] at h
  rw [List.nodup_iff_pairwise_ne]
  exact h.imp fun h e => h (by rw [e])
theorem pl_sq {c : Rat} (h : Pl c) : 0 < 1 - c * c := one_sub_pos h h.lv
section
variable {p : Rat × Rat} {r : List (Rat × Rat)}
theorem PtsOk.tail (ok : PtsOk (p :: r)) : PtsOk r := ⟨fun q hq => ok.pl q (List.mem_cons_of_mem _ hq), by have h := ok.ne; rw [List.map_cons, List.nodup_cons] at h; exact h.2, fun q hq => ok.lv q (List.mem_cons_of_mem _ hq)⟩
theorem PtsOk.head_not (ok : PtsOk (p :: r)) : p ∉ r := by
  have h := ok.ne
  rw [List.map_cons, List.nodup_cons] at h
  exact fun hp => h.1 (List.mem_map.mpr ⟨p, hp, rfl⟩)
theorem step_form (ok : PtsOk (p :: r)) (hc : Pl p.2) (u : Rat × Rat → Rat) :
    qK ker u (p :: r) = ker p p * ((u p + (1 - p.1 * p.1) / (1 - p.2 * p.2) * sm (fun q => u q * stg p.1 p.2 q) r) * (u p + (1 - p.1 * p.1) / (1 - p.2 * p.2) * sm (fun q => u q * stg p.1 p.2 q) r)) +
      1 / (1 - p.2 * p.2) * qK (fun q s => ker (stp p.1 p.2 q) (stp p.1 p.2 s)) (fun q => u q * std p.1 p.2 q) r := by
  have ha := ok.pl p List.mem_cons_self
  have hM : 1 - p.2 * p.2 ≠ 0 := by have := pl_sq hc; grind
  have hN : 1 - p.1 * p.1 ≠ 0 := by have := pl_sq ha; grind
  have key : qK ker u r = (1 - p.1 * p.1) / (1 - p.2 * p.2) * (sm (fun q => u q * stg p.1 p.2 q) r * sm (fun q => u q * stg p.1 p.2 q) r) + 1 / (1 - p.2 * p.2) * qK (fun q s => ker (stp p.1 p.2 q) (stp p.1 p.2 s)) (fun q => u q * std p.1 p.2 q) r := by
    rw [← qK_one, ← qK_scale, ← qK_mul, ← qK_mul, ← qK_add]
    refine qK_congr (fun _ _ => rfl) fun q hq s hs => ?_
    have oq := List.mem_cons_of_mem p hq
    have os := List.mem_cons_of_mem p hs
    have n1 := one_sub_pos ha (ok.pl q oq).lv
    have n2 := one_sub_pos ha (ok.pl s os).lv
    have n3 := one_sub_pos hc (ok.lv q oq)
    have n4 := one_sub_pos hc (ok.lv s os)
    have n5 := one_sub_pos (ok.pl q oq) (ok.pl s os).lv
    exact ker_step (by grind) (by grind) (by grind) (by grind) (by grind) hN hM (head_ne ok hq) (head_ne ok hs)
  rw [qK_cons ker_comm, key]
  have e : sm (fun q => u q * ker p q) r = sm (fun q => u q * stg p.1 p.2 q) r := rfl
  rw [e]
  generalize sm (fun q => u q * stg p.1 p.2 q) r = S
  generalize qK (fun q s => ker (stp p.1 p.2 q) (stp p.1 p.2 s)) (fun q => u q * std p.1 p.2 q) r = Q
  have e1 : ker p p * ((1 - p.1 * p.1) / (1 - p.2 * p.2)) = 1 := by
    unfold ker
    grind
  generalize ker p p = P at e1
  generalize (1 - p.1 * p.1) / (1 - p.2 * p.2) = m at e1
  generalize 1 / (1 - p.2 * p.2) * Q = Z
  have : P * ((u p + m * S) * (u p + m * S)) = P * (u p * u p) + 2 * (P * m) * (u p * S) + (P * m) * (m * (S * S)) := by grind
  rw [this, e1]
  grind
theorem ker_pos (ha : Pl p.1) (hc : Pl p.2) : 0 < ker p p := by
  unfold ker
  rw [Rat.div_def]
  exact Rat.mul_pos (pl_sq hc) (Rat.inv_pos.mpr (pl_sq ha))
theorem o_pos (hc : Pl p.2) : 0 < 1 / (1 - p.2 * p.2) := by
  rw [Rat.div_def]
  exact Rat.mul_pos (by decide) (Rat.inv_pos.mpr (pl_sq hc))
theorem std_ne (ok : PtsOk (p :: r)) (hc : Pl p.2) {q : Rat × Rat} (hq : q ∈ r) : std p.1 p.2 q ≠ 0 := by
  intro h
  rcases Rat.mul_eq_zero.mp h with h | h
  · exact head_ne ok hq h
  · have := one_sub_pos hc (ok.lv q (List.mem_cons_of_mem _ hq)); grind
/-- from weights behind the step to weights before it -/
theorem step_up (ok : PtsOk (p :: r)) (hc : Pl p.2) (w : Rat × Rat → Rat) : ∃ u : Rat × Rat → Rat, qK ker u (p :: r) = 1 / (1 - p.2 * p.2) * qK ker w (nxt p.1 p.2 r) ∧ ∀ q ∈ r, u q * std p.1 p.2 q = w (stp p.1 p.2 q) := by
  have hp := ok.head_not
  let S : Rat := sm (fun q => w (stp p.1 p.2 q) / std p.1 p.2 q * stg p.1 p.2 q) r
  let u : Rat × Rat → Rat := fun q => if q = p then -((1 - p.1 * p.1) / (1 - p.2 * p.2) * S) else w (stp p.1 p.2 q) / std p.1 p.2 q
  have u1 : ∀ q ∈ r, u q = w (stp p.1 p.2 q) / std p.1 p.2 q := fun q hq => if_neg (fun e : q = p => hp (e ▸ hq))
  have u0 : u p = -((1 - p.1 * p.1) / (1 - p.2 * p.2) * S) := if_pos rfl
  have u2 : ∀ q ∈ r, u q * std p.1 p.2 q = w (stp p.1 p.2 q) := fun q hq => by
    rw [u1 q hq]
    exact ((div_eq (std_ne ok hc hq)).mp rfl).symm
  refine ⟨u, ?_, u2⟩
  rw [step_form ok hc u, show sm (fun q => u q * stg p.1 p.2 q) r = S from sm_congr fun q hq => by rw [u1 q hq], u0]
  rw [nxt_map, qK_map, qK_congr (v := fun q => w (stp p.1 p.2 q)) u2 (fun _ _ _ _ => rfl)]
  grind
theorem step_down (ok : PtsOk (p :: r)) (hc : Pl p.2) (u : Rat × Rat → Rat) : ∃ w : Rat × Rat → Rat, (∀ q ∈ r, w (stp p.1 p.2 q) = u q * std p.1 p.2 q) ∧
    qK ker u (p :: r) = ker p p * ((u p + (1 - p.1 * p.1) / (1 - p.2 * p.2) * sm (fun q => u q * stg p.1 p.2 q) r) * (u p + (1 - p.1 * p.1) / (1 - p.2 * p.2) * sm (fun q => u q * stg p.1 p.2 q) r)) + 1 / (1 - p.2 * p.2) * qK ker w (nxt p.1 p.2 r) := by
  have nd : (r.map (stp p.1 p.2)).Nodup := nodup_of_fst (by rw [List.map_map]; exact ok.tail.ne)
  obtain ⟨w, hw⟩ := lift_w (fun q => u q * std p.1 p.2 q) nd
  refine ⟨w, hw, ?_⟩
  rw [step_form ok hc u, nxt_map, qK_map, qK_congr (v := fun q => w (stp p.1 p.2 q)) (fun q hq => (hw q hq).symm) (fun _ _ _ _ => rfl)]
theorem psd_step (ok : PtsOk (p :: r)) (hc : Pl p.2) : Psd (p :: r) ↔ Psd (nxt p.1 p.2 r) := by
  constructor
  · intro h w
    obtain ⟨u, e, _⟩ := step_up ok hc w
    have h1 := h u
    rw [e] at h1
    have h2 := o_pos (p := p) hc
    rw [← Rat.not_lt]
    intro h3
    have := Rat.mul_pos h2 (show 0 < -qK ker w (nxt p.1 p.2 r) by grind)
    grind
  · intro h u
    obtain ⟨w, _, e⟩ := step_down ok hc u
    rw [e]
    have h1 := Rat.mul_nonneg (Rat.le_of_lt (ker_pos (ok.pl p List.mem_cons_self) hc)) (sq_nonneg (u p + (1 - p.1 * p.1) / (1 - p.2 * p.2) * sm (fun q => u q * stg p.1 p.2 q) r))
    have h2 := Rat.mul_nonneg (Rat.le_of_lt (o_pos (p := p) hc)) (h w)
    grind
/-- a weight that makes the form nought -/
def Sing (l : List (Rat × Rat)) : Prop := ∃ u : Rat × Rat → Rat, (∃ q ∈ l, u q ≠ 0) ∧ qK ker u l = 0
theorem sing_step (ok : PtsOk (p :: r)) (hc : Pl p.2) (ps : Psd (nxt p.1 p.2 r)) : Sing (p :: r) ↔ Sing (nxt p.1 p.2 r) := by
  have ho := o_pos (p := p) hc
  have hk := ker_pos (ok.pl p List.mem_cons_self) hc
  constructor
  · rintro ⟨u, ⟨q, hq, hu⟩, e⟩
    obtain ⟨w, hw, e2⟩ := step_down ok hc u
    rw [e2] at e
    have h1 := sq_nonneg (u p + (1 - p.1 * p.1) / (1 - p.2 * p.2) * sm (fun q => u q * stg p.1 p.2 q) r)
    generalize hz : u p + (1 - p.1 * p.1) / (1 - p.2 * p.2) * sm (fun q => u q * stg p.1 p.2 q) r = z at *
    have h2 := Rat.mul_nonneg (Rat.le_of_lt hk) h1
    have h3 := Rat.mul_nonneg (Rat.le_of_lt ho) (ps w)
    have h4 : ker p p * (z * z) = 0 := by grind
    have h5 : 1 / (1 - p.2 * p.2) * qK ker w (nxt p.1 p.2 r) = 0 := by grind
    have z0 : z = 0 := by
      rcases Rat.mul_eq_zero.mp h4 with h | h
      · grind
      · exact sq_zero h
    have q0 : qK ker w (nxt p.1 p.2 r) = 0 := by
      rcases Rat.mul_eq_zero.mp h5 with h | h
      · grind
      · exact h
    refine ⟨w, ?_, q0⟩
    apply Classical.byContradiction
    intro hn
    have all : ∀ q ∈ r, u q = 0 := fun q hq => by
      have : w (stp p.1 p.2 q) = 0 := Classical.byContradiction fun h => hn ⟨_, List.mem_map.mpr ⟨q, hq, rfl⟩, h⟩
      rw [hw q hq] at this
      rcases Rat.mul_eq_zero.mp this with h | h
      · exact h
      · exact (std_ne ok hc hq h).elim
    have s0 : sm (fun q => u q * stg p.1 p.2 q) r = 0 := (sm_congr fun q hq => by rw [all q hq, Rat.zero_mul]).trans sm_zero
    rw [s0] at hz
    rcases List.mem_cons.mp hq with rfl | hq
    · exact hu (by grind)
    · exact hu (all q hq)
  · rintro ⟨w, ⟨q, hq, hu⟩, e⟩
    obtain ⟨u, e2, h⟩ := step_up ok hc w
    rw [e, Rat.mul_zero] at e2
    obtain ⟨q', hq', rfl⟩ := List.mem_map.mp hq
    refine ⟨u, ⟨q', List.mem_cons_of_mem _ hq', fun z => hu ?_⟩, e2⟩
    have := h q' hq'
    rw [z, Rat.zero_mul] at this
    exact this.symm
end
theorem psd_head {p : Rat × Rat} {r : List (Rat × Rat)} (nd : (p :: r).Nodup) (h : Psd (p :: r)) : Psd [p] :=
  PsdK.left (s := [p]) (t := r) (fun a ha => by rw [List.mem_singleton] at ha; subst ha; exact (List.nodup_cons.mp nd).1) h
theorem psd_mem {l : List (Rat × Rat)} (nd : l.Nodup) (h : Psd l) {q : Rat × Rat} (hq : q ∈ l) : Psd [q] := by
  have pm : l.Perm (q :: l.erase q) := List.perm_cons_erase hq
  exact psd_head (pm.nodup_iff.mp nd) (h.perm pm)
theorem psd_one {q : Rat × Rat} (hp : Pl q.1) (h : Psd [q]) : Lv q.2 := by
  have h1 := h fun _ => 1
  have e : qK ker (fun _ => 1) [q] = ker q q := by simp only [qK, sm]; grind
  rw [e] at h1
  unfold ker at h1
  have h2 := pl_sq hp
  have h3 : 0 ≤ 1 - q.2 * q.2 := by
    rw [← Rat.not_lt]
    intro h4
    have : (1 - q.2 * q.2) / (1 - q.1 * q.1) < 0 := (Rat.div_lt_iff h2).mpr (by grind)
    grind
  refine ⟨?_, ?_⟩
  · rw [← Rat.not_lt]
    intro h4
    have := Rat.mul_pos (show 0 < -1 - q.2 by grind) (show 0 < 1 - q.2 by grind)
    grind
  · rw [← Rat.not_lt]
    intro h4
    have := Rat.mul_pos (show 0 < q.2 - 1 by grind) (show 0 < q.2 + 1 by grind)
    grind
theorem psd_two {p q : Rat × Rat} (hp : Pl p.1) (hq : Pl q.1) (hne : p ≠ q) (h1 : p.2 * p.2 = 1) (h : Psd [p, q]) : 1 - p.2 * q.2 = 0 := by
  have hx := one_sub_pos hp hq.lv
  have kp : ker p p = 0 := by unfold ker; rw [h1]; grind
  have form : ∀ a b : Rat, 0 ≤ 2 * (a * (b * ker p q)) + b * b * ker q q := fun a b => by
    have := h fun x => if x = p then a else b
    rw [qK_cons ker_comm, kp] at this
    simp only [qK, sm, if_true, if_neg (Ne.symm hne)] at this
    grind
  have k0 : ker p q = 0 := by
    have f := fun a => form a 1
    generalize ker p q = k at f
    generalize ker q q = m at f
    by_cases hk : k = 0
    · exact hk
    · have := f (-(m + 1) / (2 * k))
      have e : (-(m + 1) / (2 * k)) * (2 * k) = -(m + 1) := ((div_eq (by grind)).mp rfl).symm
      generalize -(m + 1) / (2 * k) = a at *
      exfalso
      have : 2 * (a * (1 * k)) = a * (2 * k) := by grind
      grind
  unfold ker at k0
  rw [div_eq (by grind)] at k0
  grind
theorem isPM_sq {c : Rat} (h : isPM c) : c * c = 1 := by
  rcases h with rfl | rfl <;> grind
theorem notPM0 : ¬ isPM 0 := by decide
theorem isPM_of_sq {c : Rat} (h : c * c = 1) : isPM c := by
  have : (c - 1) * (c + 1) = 0 := by grind
  rcases Rat.mul_eq_zero.mp this with h | h
  · exact .inl (by grind)
  · exact .inr (by grind)
/-- the last level, nought where there is none -/
def lastOf (l : List (Rat × Rat)) : Rat := match ladOf l with
  | some (_, l) => l
  | none => 0
theorem psd_tell_k : ∀ (k : Nat) {l : List (Rat × Rat)}, l.length = k → PtsOk l → (tell l = true ↔ Psd l) ∧ (tell l = true → (isPM (lastOf l) ↔ Sing l))
  | 0, l, hk, ok => by
    obtain rfl := List.length_eq_zero_iff.mp hk
    refine ⟨⟨fun _ u => ?_, fun _ => ?_⟩, fun _ => ⟨fun h => ?_, fun ⟨u, ⟨q, hq, _⟩, _⟩ => by cases hq⟩⟩
    · exact Rat.le_refl
    · unfold tell; rw [ladOf]; rfl
    · unfold lastOf at h; rw [ladOf] at h; exact (notPM0 h).elim
  | k + 1, [], hk, ok => by simp at hk
  | k + 1, p :: r, hk, ok => by
    have hp := ok.lv p List.mem_cons_self
    have hpp := ok.pl p List.mem_cons_self
    have nd := nodup_of_fst ok.ne
    by_cases hpm : isPM p.2
    · have el : ladOf (p :: r) = if ∀ q ∈ r, q.2 = p.2 then some ([], p.2) else none := by rw [ladOf, if_pos hpm]
      have zero : (∀ q ∈ r, q.2 = p.2) → ∀ u, qK ker u (p :: r) = 0 := fun h u => by
        have h' : ∀ q ∈ p :: r, q.2 = p.2 := fun q hq => by
          rcases List.mem_cons.mp hq with rfl | hq
          · rfl
          · exact h q hq
        rw [qK_congr (L := fun _ _ => 0) (v := u) (fun _ _ => rfl) fun a ha b hb => by
          unfold ker; rw [h' a ha, h' b hb, isPM_sq hpm]; grind]
        unfold qK
        exact (sm_congr fun a _ => (sm_congr fun b _ => by grind).trans sm_zero).trans sm_zero
      have fwd : tell (p :: r) = true → ∀ q ∈ r, q.2 = p.2 := fun h => by
        unfold tell at h
        rw [el] at h
        split at h
        · assumption
        · cases h
      refine ⟨⟨fun h u => by rw [zero (fwd h) u]; exact Rat.le_refl, fun h => ?_⟩, fun h => ⟨fun _ => ⟨fun _ => 1, ⟨p, List.mem_cons_self, by show (1 : Rat) ≠ 0; decide⟩, zero (fwd h) _⟩, fun _ => ?_⟩⟩
      · unfold tell
        rw [el, if_pos ?_]
        · rfl
        intro q hq
        have pm : (p :: r).Perm (p :: q :: r.erase q) := (List.perm_cons_erase hq).cons p
        have h2 : Psd ([p, q] ++ r.erase q) := h.perm pm
        have nd2 := pm.nodup_iff.mp nd
        rw [List.nodup_cons, List.nodup_cons] at nd2
        have hne : p ≠ q := fun e => nd2.1 (e ▸ List.mem_cons_self)
        have h3 : Psd [p, q] := PsdK.left (fun a ha => by
          rcases List.mem_cons.mp ha with rfl | ha
          · exact fun h => nd2.1 (List.mem_cons_of_mem _ h)
          · rw [List.mem_singleton] at ha; subst ha; exact nd2.2.1) h2
        have h4 := psd_two hpp (ok.pl q (List.mem_cons_of_mem _ hq)) hne (isPM_sq hpm) h3
        rcases hpm with e | e <;> rw [e] at h4 ⊢ <;> grind
      · unfold lastOf
        rw [el, if_pos (fwd h)]
        exact hpm
    · have hc := lv_pl hp hpm
      have el : ladOf (p :: r) = if ∀ q ∈ nxt p.1 p.2 r, Lv q.2 then (match ladOf (nxt p.1 p.2 r) with | some (s, l) => some (p :: s, l) | none => none) else none := by rw [ladOf, if_neg hpm] <;> rfl
      have te : tell (p :: r) = true ↔ (∀ q ∈ nxt p.1 p.2 r, Lv q.2) ∧ tell (nxt p.1 p.2 r) = true := by
        unfold tell
        rw [el]
        split
        · rename_i h
          cases ladOf (nxt p.1 p.2 r) with
          | none => simp
          | some x => exact ⟨fun _ => ⟨h, rfl⟩, fun _ => rfl⟩
        · rename_i h
          exact ⟨(fun e => by cases e), fun e => (h e.1).elim⟩
      have le : (∀ q ∈ nxt p.1 p.2 r, Lv q.2) → lastOf (p :: r) = lastOf (nxt p.1 p.2 r) := fun h => by
        unfold lastOf
        rw [el, if_pos h]
        cases ladOf (nxt p.1 p.2 r) <;> rfl
      have ih : (∀ q ∈ nxt p.1 p.2 r, Lv q.2) → _ := fun h => psd_tell_k k (l := nxt p.1 p.2 r) (by rw [nxt_len]; simpa using hk) (nxt_ok ok h)
      have nd3 : (nxt p.1 p.2 r).Nodup := nodup_of_fst (by rw [nxt_map, List.map_map]; exact ok.tail.ne)
      refine ⟨?_, fun h => ?_⟩
      · rw [te, psd_step ok hc]
        constructor
        · rintro ⟨h1, h2⟩
          exact (ih h1).1.mp h2
        · intro h
          have h1 : ∀ q ∈ nxt p.1 p.2 r, Lv q.2 := fun q hq => by
            refine psd_one ?_ (psd_mem nd3 h hq)
            obtain ⟨q', hq', rfl⟩ := List.mem_map.mp hq
            exact ok.pl q' (List.mem_cons_of_mem _ hq')
          exact ⟨h1, (ih h1).1.mpr h⟩
      · obtain ⟨h1, h2⟩ := te.mp h
        rw [le h1, (ih h1).2 h2, sing_step ok hc ((ih h1).1.mp h2)]
theorem psd_tell {l : List (Rat × Rat)} (ok : PtsOk l) : tell l = true ↔ Psd l := (psd_tell_k _ rfl ok).1
theorem sing_last {l : List (Rat × Rat)} (ok : PtsOk l) (h : tell l = true) : isPM (lastOf l) ↔ Sing l := (psd_tell_k _ rfl ok).2 h
theorem tell_perm {l m : List (Rat × Rat)} (h : l.Perm m) (ok : PtsOk l) : tell l = tell m := by
  rw [Bool.eq_iff_iff, psd_tell ok, psd_tell (ok.perm h)]
  exact ⟨PsdK.perm h, PsdK.perm h.symm⟩
theorem Sing.perm {l m : List (Rat × Rat)} (h : l.Perm m) (s : Sing l) : Sing m := by
  obtain ⟨u, ⟨q, hq, hu⟩, e⟩ := s
  exact ⟨u, ⟨q, h.mem_iff.mp hq, hu⟩, by rw [← qK_perm h]; exact e⟩
end DL

namespace DL
/-! order under lifts -/
theorem lf_le {c y z : Rat} (hc : Pl c) (hy : Lv y) (hz : Lv z) (h : y ≤ z) : lf c y ≤ lf c z := by
  have h1 := one_add_pos hc hy
  have h2 := one_add_pos hc hz
  have h3 := pl_sq hc
  rw [← Rat.not_lt]
  intro h4
  unfold lf at h4
  have e1 : (c + y) / (1 + c * y) * (1 + c * y) = c + y := ((div_eq (by grind)).mp rfl).symm
  rw [Rat.div_lt_iff h2] at h4
  have h5 := Rat.mul_lt_mul_of_pos_right h4 h1
  generalize (c + y) / (1 + c * y) = t at *
  have h6 : t * (1 + c * z) * (1 + c * y) = (c + y) * (1 + c * z) := by rw [← e1]; grind
  rw [h6] at h5
  have h7 := Rat.mul_nonneg (Rat.le_of_lt h3) (show 0 ≤ z - y by grind)
  grind
theorem tn_lf_neg (c t : Rat) : tn c t = lf (-c) t := by rw [lf_tn_neg, Rat.neg_neg]
theorem tn_le {c y z : Rat} (hc : Pl c) (hy : Lv y) (hz : Lv z) (h : y ≤ z) : tn c y ≤ tn c z := by
  rw [tn_lf_neg, tn_lf_neg]; exact lf_le hc.neg hy hz h
def Btw (a b v : Rat) : Prop := (a ≤ v ∧ v ≤ b) ∨ (b ≤ v ∧ v ≤ a)
theorem Btw.lf {c a b v : Rat} (hc : Pl c) (ha : Lv a) (hb : Lv b) (hv : Lv v) (h : Btw a b v) : Btw (lf c a) (lf c b) (lf c v) := by
  rcases h with ⟨h1, h2⟩ | ⟨h1, h2⟩
  · exact .inl ⟨lf_le hc ha hv h1, lf_le hc hv hb h2⟩
  · exact .inr ⟨lf_le hc hb hv h1, lf_le hc hv ha h2⟩
theorem Btw.tn {c a b v : Rat} (hc : Pl c) (ha : Lv a) (hb : Lv b) (hv : Lv v) (h : Btw a b v) : Btw (tn c a) (tn c b) (tn c v) := by
  rw [tn_lf_neg, tn_lf_neg, tn_lf_neg]; exact Btw.lf hc.neg ha hb hv h
theorem Btw.mul {k a b v : Rat} (h : Btw a b v) : Btw (k * a) (k * b) (k * v) := by
  have m : ∀ {x y : Rat}, 0 ≤ k → x ≤ y → k * x ≤ k * y := fun {x y} hk hxy => by
    have := Rat.mul_nonneg hk (show 0 ≤ y - x by grind)
    grind
  have m' : ∀ {x y : Rat}, k ≤ 0 → x ≤ y → k * y ≤ k * x := fun {x y} hk hxy => by
    have := Rat.mul_nonneg (show 0 ≤ -k by grind) (show 0 ≤ y - x by grind)
    grind
  rcases Rat.le_total (a := 0) (b := k) with hk | hk <;> rcases h with ⟨h1, h2⟩ | ⟨h1, h2⟩
  · exact .inl ⟨m hk h1, m hk h2⟩
  · exact .inr ⟨m hk h1, m hk h2⟩
  · exact .inr ⟨m' hk h2, m' hk h1⟩
  · exact .inl ⟨m' hk h2, m' hk h1⟩
theorem Btw.lv {a b v : Rat} (ha : Lv a) (hb : Lv b) (h : Btw a b v) : Lv v := by
  obtain ⟨a1, a2⟩ := ha
  obtain ⟨b1, b2⟩ := hb
  rcases h with ⟨h1, h2⟩ | ⟨h1, h2⟩ <;> exact ⟨by grind, by grind⟩
theorem stepsOk.tail {p : Rat × Rat} {s : List (Rat × Rat)} (h : stepsOk (p :: s)) : stepsOk s := fun q hq => h q (List.mem_cons_of_mem _ hq)
theorem lv_one : Lv 1 := by decide
theorem lv_neg_one : Lv (-1) := by decide
/-- a ladder's values at a place fill the stretch between its two full ones -/
theorem val_btw {x : Rat} (hx : Lv x) : ∀ {s : List (Rat × Rat)} {t : Rat}, stepsOk s → Lv t → Btw (val x s (-1)) (val x s 1) (val x s t)
  | [], t, _, ht => .inl ht
  | p :: s, t, hs, ht => by
    have hp := hs p List.mem_cons_self
    have hb := tn_lv hp.1 hx
    exact Btw.lf hp.2 (lv_mul hb (val_lv hx hs.tail lv_neg_one)) (lv_mul hb (val_lv hx hs.tail lv_one)) (lv_mul hb (val_lv hx hs.tail ht)) (val_btw hx hs.tail ht).mul
theorem val_onto {x : Rat} (hx : Lv x) : ∀ {s : List (Rat × Rat)} {v : Rat}, stepsOk s → (∀ p ∈ s, p.1 ≠ x) → Btw (val x s (-1)) (val x s 1) v → ∃ t, Lv t ∧ v = val x s t
  | [], v, _, _, h => by
    refine ⟨v, ?_, rfl⟩
    rcases h with h | ⟨h1, h2⟩
    · exact h
    · have h1 : (1 : Rat) ≤ v := h1
      have h2 : v ≤ -1 := h2
      exfalso; grind
  | p :: s, v, hs, hne, h => by
    have hp := hs p List.mem_cons_self
    have hb := tn_lv hp.1 hx
    have hb0 : tn p.1 x ≠ 0 := fun e => hne p List.mem_cons_self ((tn_zero_iff hp.1 hx).mp e).symm
    have l1 := lv_mul hb (val_lv hx hs.tail lv_neg_one)
    have l2 := lv_mul hb (val_lv hx hs.tail lv_one)
    have hv : Lv v := h.lv (lf_lv hp.2 l1) (lf_lv hp.2 l2)
    have h1 : Btw (tn p.2 (lf p.2 (tn p.1 x * val x s (-1)))) (tn p.2 (lf p.2 (tn p.1 x * val x s 1))) (tn p.2 v) := Btw.tn hp.2 (lf_lv hp.2 l1) (lf_lv hp.2 l2) hv h
    rw [tn_lf hp.2 l1, tn_lf hp.2 l2] at h1
    have h2 := h1.mul (k := 1 / tn p.1 x)
    have c1 : ∀ y, 1 / tn p.1 x * (tn p.1 x * y) = y := fun y => by grind
    rw [c1, c1] at h2
    obtain ⟨t, ht, e⟩ := val_onto hx hs.tail (fun q hq => hne q (List.mem_cons_of_mem _ hq)) h2
    refine ⟨t, ht, ?_⟩
    show v = lf p.2 (tn p.1 x * val x s t)
    rw [← e, show tn p.1 x * (1 / tn p.1 x * tn p.2 v) = tn p.2 v by grind, lf_tn hp.2 hv]
theorem ladOf_st : ∀ (k : Nat) {pts : List (Rat × Rat)} {s : List (Rat × Rat)} {l : Rat}, pts.length = k → PtsOk pts → ladOf pts = some (s, l) →
    stepsOk s ∧ (l = 0 ∨ isPM l) ∧ ∀ q ∈ s, ∃ p ∈ pts, p.1 = q.1
  | 0, pts, s, l, hk, ok, e => by
    obtain rfl := List.length_eq_zero_iff.mp hk
    rw [ladOf] at e
    cases e
    exact ⟨(fun p h => by cases h), .inl rfl, (fun p h => by cases h)⟩
  | k + 1, [], s, l, hk, ok, e => by simp at hk
  | k + 1, p :: r, s, l, hk, ok, e => by
    rw [ladOf] at e
    by_cases hpm : isPM p.2
    · rw [if_pos hpm] at e
      split at e
      · cases e
        exact ⟨(fun p h => by cases h), .inr hpm, (fun p h => by cases h)⟩
      · cases e
    · rw [if_neg hpm] at e
      split at e
      · rename_i hl
        split at e
        · rename_i s' l' e'
          cases e
          obtain ⟨h1, h2, h3⟩ := ladOf_st k (by rw [nxt_len]; simpa using hk) (nxt_ok ok hl) e'
          refine ⟨fun q hq => ?_, h2, fun q hq => ?_⟩
          · rcases List.mem_cons.mp hq with rfl | hq
            · exact ⟨ok.pl _ List.mem_cons_self, lv_pl (ok.lv _ List.mem_cons_self) hpm⟩
            · exact h1 q hq
          · rcases List.mem_cons.mp hq with rfl | hq
            · exact ⟨_, List.mem_cons_self, rfl⟩
            · obtain ⟨q', hq', e2⟩ := h3 q hq
              obtain ⟨q2, hq2, rfl⟩ := List.mem_map.mp hq'
              exact ⟨q2, List.mem_cons_of_mem _ hq2, e2⟩
        · cases e
      · cases e
/-- one more point, at the end -/
theorem ladOf_snoc {x : Rat} (hx : Pl x) : ∀ (k : Nat) {pts : List (Rat × Rat)} {s : List (Rat × Rat)} {l v : Rat}, pts.length = k → PtsOk pts → (∀ p ∈ pts, p.1 ≠ x) → Lv v → ladOf pts = some (s, l) →
    (tell (pts ++ [(x, v)]) = true ↔ ∃ t, Lv t ∧ (isPM l → t = l) ∧ v = val x s t) ∧
    (∀ t, Lv t → (isPM l → t = l) → v = val x s t → isPM t → isPM (lastOf (pts ++ [(x, v)])))
  | 0, pts, s, l, v, hk, ok, hne, hv, e => by
    obtain rfl := List.length_eq_zero_iff.mp hk
    rw [ladOf] at e
    cases e
    rw [List.nil_append]
    by_cases hpm : isPM v
    · have e1 : ladOf [(x, v)] = some ([], v) := by rw [ladOf, if_pos hpm]; rfl
      refine ⟨⟨fun _ => ⟨v, hv, fun h => (notPM0 h).elim, rfl⟩, fun _ => by unfold tell; rw [e1]; rfl⟩, fun t _ _ _ _ => by unfold lastOf; rw [e1]; exact hpm⟩
    · have e1 : ladOf [(x, v)] = some ([(x, v)], 0) := by rw [ladOf, if_neg hpm, if_pos (by intro q hq; cases hq), show nxt (x, v).1 (x, v).2 [] = [] from rfl, ladOf]
      refine ⟨⟨fun _ => ⟨v, hv, fun h => (notPM0 h).elim, rfl⟩, fun _ => by unfold tell; rw [e1]; rfl⟩, fun t _ _ h1 h2 => ?_⟩
      have h1 : v = t := h1
      exact (hpm (h1 ▸ h2)).elim
  | k + 1, [], s, l, v, hk, ok, hne, hv, e => by simp at hk
  | k + 1, p :: r, s, l, v, hk, ok, hne, hv, e => by
    have hp := ok.lv p List.mem_cons_self
    have hpp := ok.pl p List.mem_cons_self
    rw [ladOf] at e
    by_cases hpm : isPM p.2
    · rw [if_pos hpm] at e
      split at e
      · rename_i hall
        cases e
        have e1 : ladOf (p :: r ++ [(x, v)]) = if ∀ q ∈ r ++ [(x, v)], q.2 = p.2 then some ([], p.2) else none := by rw [List.cons_append, ladOf, if_pos hpm]
        have e2 : (∀ q ∈ r ++ [(x, v)], q.2 = p.2) ↔ v = p.2 := by
          constructor
          · intro h; exact h (x, v) (by simp)
          · intro h q hq
            rcases List.mem_append.mp hq with hq | hq
            · exact hall q hq
            · rw [List.mem_singleton] at hq; subst hq; exact h
        refine ⟨⟨fun h => ?_, fun ⟨t, ht, h1, h2⟩ => ?_⟩, fun t ht h1 h2 h3 => ?_⟩
        · unfold tell at h
          rw [e1] at h
          split at h
          · rename_i h4; exact ⟨p.2, hp, fun _ => rfl, e2.mp h4⟩
          · cases h
        · have h2 : v = t := h2
          unfold tell
          rw [e1, if_pos (e2.mpr (by rw [h2, h1 hpm]))]
          rfl
        · have h2 : v = t := h2
          unfold lastOf
          rw [e1, if_pos (e2.mpr (by rw [h2, h1 hpm]))]
          exact hpm
      · cases e
    · have hc := lv_pl hp hpm
      rw [if_neg hpm] at e
      split at e
      · rename_i hall
        split at e
        · rename_i s' l' e'
          cases e
          have hb0 : tn p.1 x ≠ 0 := fun h => hne p List.mem_cons_self ((tn_zero_iff hpp hx.lv).mp h).symm
          have e3 : nxt p.1 p.2 (r ++ [(x, v)]) = nxt p.1 p.2 r ++ [(x, tn p.2 v / tn p.1 x)] := by unfold nxt; rw [List.map_append]; rfl
          have e1 : ladOf (p :: r ++ [(x, v)]) = if Lv (tn p.2 v / tn p.1 x) then (match ladOf (nxt p.1 p.2 r ++ [(x, tn p.2 v / tn p.1 x)]) with | some (s, l) => some (p :: s, l) | none => none) else none := by
            rw [List.cons_append, ladOf, if_neg hpm, e3]
            have : (∀ q ∈ nxt p.1 p.2 r ++ [(x, tn p.2 v / tn p.1 x)], Lv q.2) ↔ Lv (tn p.2 v / tn p.1 x) := by
              constructor
              · intro h; exact h (x, _) (by simp)
              · intro h q hq
                rcases List.mem_append.mp hq with hq | hq
                · exact hall q hq
                · rw [List.mem_singleton] at hq; subst hq; exact h
            by_cases h : Lv (tn p.2 v / tn p.1 x)
            · rw [if_pos (this.mpr h), if_pos h] <;> rfl
            · rw [if_neg (fun q => h (this.mp q)), if_neg h]
          obtain ⟨ks, _, _⟩ := ladOf_st _ rfl (nxt_ok ok hall) e'
          have hne' : ∀ q ∈ nxt p.1 p.2 r, q.1 ≠ x := fun q hq => by
            obtain ⟨q', hq', rfl⟩ := List.mem_map.mp hq
            exact hne q' (List.mem_cons_of_mem _ hq')
          have vv : ∀ t, Lv t → (v = val x (p :: s') t ↔ tn p.2 v / tn p.1 x = val x s' t) := fun t ht => by
            have hvl := val_lv hx.lv ks ht
            have hm := lv_mul (tn_lv hpp hx.lv) hvl
            rw [div_eq hb0, Rat.mul_comm (val x s' t)]
            constructor
            · intro h
              rw [h]
              exact tn_lf hc hm
            · intro h
              show v = lf p.2 (tn p.1 x * val x s' t)
              rw [← h, lf_tn hc hv]
          by_cases hl : Lv (tn p.2 v / tn p.1 x)
          · obtain ⟨i1, i2⟩ := ladOf_snoc hx k (by rw [nxt_len]; simpa using hk) (nxt_ok ok hall) hne' hl e'
            have t1 : tell (p :: r ++ [(x, v)]) = tell (nxt p.1 p.2 r ++ [(x, tn p.2 v / tn p.1 x)]) := by
              unfold tell
              rw [e1, if_pos hl]
              cases ladOf (nxt p.1 p.2 r ++ [(x, tn p.2 v / tn p.1 x)]) <;> rfl
            have t2 : lastOf (p :: r ++ [(x, v)]) = lastOf (nxt p.1 p.2 r ++ [(x, tn p.2 v / tn p.1 x)]) := by
              unfold lastOf
              rw [e1, if_pos hl]
              cases ladOf (nxt p.1 p.2 r ++ [(x, tn p.2 v / tn p.1 x)]) <;> rfl
            refine ⟨?_, fun t ht h1 h2 h3 => ?_⟩
            · rw [t1, i1]
              constructor
              · rintro ⟨t, ht, h1, h2⟩; exact ⟨t, ht, h1, (vv t ht).mpr h2⟩
              · rintro ⟨t, ht, h1, h2⟩; exact ⟨t, ht, h1, (vv t ht).mp h2⟩
            · rw [t2]; exact i2 t ht h1 ((vv t ht).mp h2) h3
          · have no : ∀ t, Lv t → v ≠ val x (p :: s') t := fun t ht h => hl (by rw [(vv t ht).mp h]; exact val_lv hx.lv ks ht)
            refine ⟨⟨fun h => ?_, fun ⟨t, ht, _, h⟩ => (no t ht h).elim⟩, fun t ht _ h _ => (no t ht h).elim⟩
            unfold tell at h
            rw [e1, if_neg hl] at h
            cases h
        · cases e
      · cases e
theorem btw_min {a b v : Rat} : Btw a b v ↔ (if b < a then b else a) ≤ v ∧ v ≤ (if b < a then a else b) := by
  unfold Btw
  split
  · constructor
    · rintro (⟨h1, h2⟩ | h)
      · exfalso; grind
      · exact h
    · exact .inr
  · constructor
    · rintro (h | ⟨h1, h2⟩)
      · exact h
      · exact ⟨by grind, by grind⟩
    · exact .inl
/-- what the range is -/
theorem rng_spec {pts : List (Rat × Rat)} {x : Rat} (ok : PtsOk pts) (hx : Pl x) (hne : ∀ p ∈ pts, p.1 ≠ x) (ht : tell pts = true) :
    Lv (rng pts x).1 ∧ Lv (rng pts x).2 ∧ (rng pts x).1 ≤ (rng pts x).2 ∧ (∀ v, Lv v → (tell (pts ++ [(x, v)]) = true ↔ (rng pts x).1 ≤ v ∧ v ≤ (rng pts x).2)) ∧
    (isPM (lastOf (pts ++ [(x, (rng pts x).1)]))) ∧ (isPM (lastOf (pts ++ [(x, (rng pts x).2)]))) ∧ (isPM (lastOf pts) → (rng pts x).1 = (rng pts x).2) := by
  obtain ⟨⟨s, l⟩, e⟩ := Option.isSome_iff_exists.mp ht
  obtain ⟨ks, kl, kp⟩ := ladOf_st _ rfl ok e
  have hne' : ∀ q ∈ s, q.1 ≠ x := fun q hq h => by obtain ⟨p, hp, e⟩ := kp q hq; exact hne p hp (e.trans h)
  have el : lastOf pts = l := by unfold lastOf; rw [e]
  have hr : rng pts x = (val x s (endL s l x).1, val x s (endL s l x).2) := by unfold rng; rw [e]
  obtain ⟨p1, p2⟩ := endL_pm s l x
  have sn := fun v hv => ladOf_snoc hx _ (v := v) rfl ok hne hv e
  have v1 := val_lv hx.lv ks (lv_pm (.inr p1))
  have v2 := val_lv hx.lv ks (lv_pm (.inr p2))
  rw [hr, el]
  refine ⟨v1, v2, ?_⟩
  by_cases hpm : isPM l
  · have ee : endL s l x = (l, l) := if_pos hpm
    rw [ee] at v1 v2 ⊢
    refine ⟨Rat.le_refl, fun v hv => ?_, (sn _ v1).2 l (lv_pm (.inr hpm)) (fun _ => rfl) rfl hpm, (sn _ v1).2 l (lv_pm (.inr hpm)) (fun _ => rfl) rfl hpm, fun _ => rfl⟩
    rw [(sn v hv).1]
    constructor
    · rintro ⟨t, _, h1, h2⟩
      rw [h2, h1 hpm]
      exact ⟨Rat.le_refl, Rat.le_refl⟩
    · rintro ⟨h1, h2⟩
      exact ⟨l, lv_pm (.inr hpm), fun _ => rfl, Rat.le_antisymm h2 h1⟩
  · have ee : endL s l x = if val x s 1 < val x s (-1) then (1, -1) else (-1, 1) := if_neg hpm
    have b1 : val x s (endL s l x).1 = if val x s 1 < val x s (-1) then val x s 1 else val x s (-1) := by rw [ee]; split <;> rfl
    have b2 : val x s (endL s l x).2 = if val x s 1 < val x s (-1) then val x s (-1) else val x s 1 := by rw [ee]; split <;> rfl
    have hb : ∀ v, Btw (val x s (-1)) (val x s 1) v ↔ val x s (endL s l x).1 ≤ v ∧ v ≤ val x s (endL s l x).2 := fun v => by rw [b1, b2]; exact btw_min
    refine ⟨?_, fun v hv => ?_, (sn _ v1).2 _ (lv_pm (.inr p1)) (fun h => (hpm h).elim) rfl p1, (sn _ v2).2 _ (lv_pm (.inr p2)) (fun h => (hpm h).elim) rfl p2, fun h => (hpm h).elim⟩
    · rw [b1, b2]; split <;> grind
    · rw [(sn v hv).1, ← hb]
      constructor
      · rintro ⟨t, h0, _, h2⟩
        rw [h2]
        exact val_btw hx.lv ks h0
      · intro h
        obtain ⟨t, h0, h1⟩ := val_onto hx.lv ks hne' h
        exact ⟨t, h0, fun h => (hpm h).elim, h1⟩
end DL

namespace DL
/-! nought levels, ladders' levels, means -/
theorem tn_zero_zero (c : Rat) : tn 0 0 = 0 := by unfold tn; grind
theorem tell_zero : ∀ (k : Nat) {xs : List Rat}, xs.length = k → tell (xs.map fun x => (x, (0 : Rat))) = true
  | 0, xs, hk => by
    obtain rfl := List.length_eq_zero_iff.mp hk
    unfold tell; rw [List.map_nil, ladOf]; rfl
  | k + 1, [], hk => by simp at hk
  | k + 1, x :: r, hk => by
    have e : nxt x 0 (r.map fun x => (x, (0 : Rat))) = r.map fun x => (x, (0 : Rat)) := by
      unfold nxt
      rw [List.map_map]
      refine List.map_congr_left fun y _ => ?_
      show (y, tn 0 0 / tn x y) = (y, (0 : Rat))
      rw [tn_zero_zero 0, Rat.div_def, Rat.zero_mul]
    have ih := tell_zero k (xs := r) (by simpa using hk)
    unfold tell at ih ⊢
    rw [List.map_cons, ladOf, if_neg notPM0, e, if_pos (fun q hq => by
      obtain ⟨y, _, rfl⟩ := List.mem_map.mp hq; exact lv_pm (.inl rfl))]
    cases h : ladOf (r.map fun x => (x, (0 : Rat))) with
    | none => rw [h] at ih; cases ih
    | some q => rfl
def sz0 (x y : Rat) : Rat := 1 / (1 - x * y)
theorem psd_sz0 {xs : List Rat} (hp : ∀ x ∈ xs, Pl x) (nd : xs.Nodup) : PsdK sz0 xs := fun u => by
  have ok : PtsOk (xs.map fun x => (x, (0 : Rat))) := ⟨fun p h => by obtain ⟨x, hx, rfl⟩ := List.mem_map.mp h; exact hp x hx, by rw [List.map_map]; simpa [Function.comp_def] using nd, fun p h => by obtain ⟨x, hx, rfl⟩ := List.mem_map.mp h; exact lv_pm (.inl rfl)⟩
  have h := (psd_tell ok).mp (tell_zero _ rfl) fun q => u q.1
  rw [qK_map] at h
  rwa [qK_congr (v := u) (L := sz0) (fun _ _ => rfl) fun a _ b _ => by unfold ker sz0; show (1 - 0 * 0) / _ = _; rw [show (1 - 0 * 0 : Rat) = 1 by grind]] at h
/-- the kernel of a ladder -/
def kv (s : List (Rat × Rat)) (l : Rat) (x y : Rat) : Rat := (1 - val x s l * val y s l) / (1 - x * y)
theorem kv_step {a c x y g g' : Rat} (hA : 1 - a * x ≠ 0) (hA' : 1 - a * y ≠ 0) (hX : 1 - x * y ≠ 0) (hD : 1 + c * (tn a x * g) ≠ 0) (hD' : 1 + c * (tn a y * g') ≠ 0) :
    (1 - lf c (tn a x * g) * lf c (tn a y * g')) / (1 - x * y) = 1 / (1 + c * (tn a x * g)) * (1 / (1 + c * (tn a y * g'))) * ((1 - c * c) * ((1 - a * a) * (1 / (1 - a * x) * (1 / (1 - a * y))) + tn a x * tn a y * ((1 - g * g') / (1 - x * y)))) := by
  have e1 : tn a x * (1 - a * x) = x - a := ((div_eq hA).mp rfl).symm
  have e2 : tn a y * (1 - a * y) = y - a := ((div_eq hA').mp rfl).symm
  generalize tn a x = b at *
  generalize tn a y = b' at *
  have e3 : lf c (b * g) * (1 + c * (b * g)) = c + b * g := ((div_eq hD).mp rfl).symm
  have e4 : lf c (b' * g') * (1 + c * (b' * g')) = c + b' * g' := ((div_eq hD').mp rfl).symm
  generalize lf c (b * g) = z at *
  generalize lf c (b' * g') = z' at *
  have e5 : 1 / (1 + c * (b * g)) * (1 + c * (b * g)) = 1 := ((div_eq hD).mp rfl).symm
  have e6 : 1 / (1 + c * (b' * g')) * (1 + c * (b' * g')) = 1 := ((div_eq hD').mp rfl).symm
  generalize 1 / (1 + c * (b * g)) = d at *
  generalize 1 / (1 + c * (b' * g')) = d' at *
  have e7 : 1 / (1 - a * x) * (1 - a * x) = 1 := ((div_eq hA).mp rfl).symm
  have e8 : 1 / (1 - a * y) * (1 - a * y) = 1 := ((div_eq hA').mp rfl).symm
  generalize 1 / (1 - a * x) = f at *
  generalize 1 / (1 - a * y) = f' at *
  rw [div_eq hX]
  have e9 : (1 - g * g') / (1 - x * y) * (1 - x * y) = 1 - g * g' := ((div_eq hX).mp rfl).symm
  generalize (1 - g * g') / (1 - x * y) = k at *
  have z1 : z = d * (c + b * g) := by rw [← e3]; grind
  have z2 : z' = d' * (c + b' * g') := by rw [← e4]; grind
  have b1 : b = f * (x - a) := by rw [← e1]; grind
  have b2 : b' = f' * (y - a) := by rw [← e2]; grind
  have r1 : 1 - z * z' = d * d' * ((1 + c * (b * g)) * (1 + c * (b' * g')) - (c + b * g) * (c + b' * g')) := by
    have : d * d' * ((1 + c * (b * g)) * (1 + c * (b' * g'))) = 1 := by
      have : d * d' * ((1 + c * (b * g)) * (1 + c * (b' * g'))) = (d * (1 + c * (b * g))) * (d' * (1 + c * (b' * g'))) := by grind
      rw [this, e5, e6]; grind
    rw [z1, z2]; grind
  have r2 : 1 - b * b' = (1 - a * a) * (f * f') * (1 - x * y) := by
    have : (f * f') * ((1 - a * x) * (1 - a * y)) = 1 := by
      have : (f * f') * ((1 - a * x) * (1 - a * y)) = (f * (1 - a * x)) * (f' * (1 - a * y)) := by grind
      rw [this, e7, e8]; grind
    rw [b1, b2]
    have h : 1 - f * (x - a) * (f' * (y - a)) = (f * f') * ((1 - a * x) * (1 - a * y)) - (f * f') * ((x - a) * (y - a)) := by rw [this]; grind
    rw [h]
    clear this h e1 e2 e3 e4 e5 e6 e7 e8 e9 z1 z2 b1 b2 r1
    grind
  rw [r1]
  have r3 : d * d' * ((1 - c * c) * ((1 - a * a) * (f * f') + b * b' * k)) * (1 - x * y) = d * d' * (1 - c * c) * ((1 - a * a) * (f * f') * (1 - x * y) + b * b' * (k * (1 - x * y))) := by grind
  rw [r3, ← r2, e9]
  clear r1 r2 r3 e1 e2 e3 e4 e5 e6 e7 e8 e9 z1 z2 b1 b2
  grind
theorem psd_kv {xs : List Rat} (hp : ∀ x ∈ xs, Pl x) (nd : xs.Nodup) : ∀ {s : List (Rat × Rat)} {l : Rat}, stepsOk s → Lv l → PsdK (kv s l) xs
  | [], l, _, hl => fun u => by
    have h : 0 ≤ 1 - l * l := by
      have := Rat.mul_nonneg (show 0 ≤ 1 - l by have := hl.2; grind) (show 0 ≤ 1 + l by have := hl.1; grind)
      grind
    rw [qK_congr (v := u) (L := fun x y => (1 - l * l) * sz0 x y) (fun _ _ => rfl) fun a _ b _ => by unfold kv sz0; show (1 - l * l) / _ = _; rw [Rat.div_def, Rat.div_def]; grind, qK_mul]
    exact Rat.mul_nonneg h (psd_sz0 hp nd u)
  | p :: s, l, hs, hl => fun u => by
    have h0 := hs p List.mem_cons_self
    have ih := psd_kv hp nd hs.tail hl
    let D : Rat → Rat := fun x => 1 / (1 + p.2 * (tn p.1 x * val x s l))
    have key : qK (kv (p :: s) l) u xs = (1 - p.2 * p.2) * ((1 - p.1 * p.1) * (sm (fun x => u x * D x * (1 / (1 - p.1 * x))) xs * sm (fun x => u x * D x * (1 / (1 - p.1 * x))) xs) + qK (kv s l) (fun x => u x * D x * tn p.1 x) xs) := by
      rw [← qK_one, ← qK_scale (d := fun x => tn p.1 x), ← qK_mul, ← qK_add, ← qK_mul, ← qK_scale (d := D)]
      refine qK_congr (fun _ _ => rfl) fun x hx y hy => ?_
      have n1 := one_sub_pos h0.1 (hp x hx).lv
      have n2 := one_sub_pos h0.1 (hp y hy).lv
      have n3 := one_sub_pos (hp x hx) (hp y hy).lv
      have n4 := one_add_pos h0.2 (lv_mul (tn_lv h0.1 (hp x hx).lv) (val_lv (hp x hx).lv hs.tail hl))
      have n5 := one_add_pos h0.2 (lv_mul (tn_lv h0.1 (hp y hy).lv) (val_lv (hp y hy).lv hs.tail hl))
      exact kv_step (by grind) (by grind) (by grind) (by grind) (by grind)
    rw [key]
    have a1 := pl_sq h0.1
    have a2 := pl_sq h0.2
    have a3 := ih fun x => u x * D x * tn p.1 x
    have a4 := Rat.mul_nonneg (Rat.le_of_lt a1) (sq_nonneg (sm (fun x => u x * D x * (1 / (1 - p.1 * x))) xs))
    exact Rat.mul_nonneg (Rat.le_of_lt a2) (by grind)
/-- a ladder's levels can be told -/
theorem tell_val {xs : List Rat} (hp : ∀ x ∈ xs, Pl x) (nd : xs.Nodup) {s : List (Rat × Rat)} {l : Rat} (hs : stepsOk s) (hl : Lv l) :
    PtsOk (xs.map fun x => (x, val x s l)) ∧ tell (xs.map fun x => (x, val x s l)) = true := by
  have ok : PtsOk (xs.map fun x => (x, val x s l)) := ⟨fun p h => by obtain ⟨x, hx, rfl⟩ := List.mem_map.mp h; exact hp x hx, by rw [List.map_map]; simpa [Function.comp_def] using nd, fun p h => by obtain ⟨x, hx, rfl⟩ := List.mem_map.mp h; exact val_lv (hp x hx).lv hs hl⟩
  refine ⟨ok, (psd_tell ok).mpr fun u => ?_⟩
  rw [qK_map]
  exact psd_kv hp nd hs hl fun x => u (x, val x s l)
/-- means of what can be told -/
theorem tell_mean {ts : List (Rat × Rat × Rat)} (ok1 : PtsOk (ts.map fun t => (t.1, t.2.1))) (ok2 : PtsOk (ts.map fun t => (t.1, t.2.2)))
    (h1 : tell (ts.map fun t => (t.1, t.2.1)) = true) (h2 : tell (ts.map fun t => (t.1, t.2.2)) = true) :
    PtsOk (ts.map fun t => (t.1, (t.2.1 + t.2.2) * (1 / 2))) ∧ tell (ts.map fun t => (t.1, (t.2.1 + t.2.2) * (1 / 2))) = true := by
  have pl : ∀ t ∈ ts, Pl t.1 := fun t ht => ok1.pl _ (List.mem_map.mpr ⟨t, ht, rfl⟩)
  have nd : (ts.map (·.1)).Nodup := by have := ok1.ne; rwa [List.map_map] at this
  have ok : PtsOk (ts.map fun t => (t.1, (t.2.1 + t.2.2) * (1 / 2))) := ⟨fun p h => by obtain ⟨t, ht, rfl⟩ := List.mem_map.mp h; exact pl t ht, by rw [List.map_map]; exact nd, fun p h => by
    obtain ⟨t, ht, rfl⟩ := List.mem_map.mp h
    obtain ⟨a1, a2⟩ := ok1.lv _ (List.mem_map.mpr ⟨t, ht, rfl⟩)
    obtain ⟨b1, b2⟩ := ok2.lv _ (List.mem_map.mpr ⟨t, ht, rfl⟩)
    exact ⟨by grind, by grind⟩⟩
  refine ⟨ok, (psd_tell ok).mpr fun u => ?_⟩
  rw [qK_map]
  have nd1 : (ts.map fun t => (t.1, t.2.1)).Nodup := nodup_of_fst ok1.ne
  have nd2 : (ts.map fun t => (t.1, t.2.2)).Nodup := nodup_of_fst ok2.ne
  obtain ⟨u1, e1⟩ := lift_w (fun t => u (t.1, (t.2.1 + t.2.2) * (1 / 2))) nd1
  obtain ⟨u2, e2⟩ := lift_w (fun t => u (t.1, (t.2.1 + t.2.2) * (1 / 2))) nd2
  obtain ⟨u3, e3⟩ := lift_w (fun t => u (t.1, (t.2.1 + t.2.2) * (1 / 2)) * (t.2.1 - t.2.2)) nd
  have g1 := (psd_tell ok1).mp h1 u1
  have g2 := (psd_tell ok2).mp h2 u2
  have g3 := psd_sz0 (xs := ts.map (·.1)) (fun x hx => by obtain ⟨t, ht, rfl⟩ := List.mem_map.mp hx; exact pl t ht) nd u3
  rw [qK_map, qK_congr e1 fun _ _ _ _ => rfl] at g1
  rw [qK_map, qK_congr e2 fun _ _ _ _ => rfl] at g2
  rw [qK_map, qK_congr e3 fun _ _ _ _ => rfl, ← qK_scale] at g3
  have key : qK (fun a b : Rat × Rat × Rat => ker (a.1, (a.2.1 + a.2.2) * (1 / 2)) (b.1, (b.2.1 + b.2.2) * (1 / 2))) (fun t => u (t.1, (t.2.1 + t.2.2) * (1 / 2))) ts =
      qK (fun a b : Rat × Rat × Rat => (1 / 2) * ker (a.1, a.2.1) (b.1, b.2.1) + ((1 / 2) * ker (a.1, a.2.2) (b.1, b.2.2) + (1 / 4) * ((a.2.1 - a.2.2) * (b.2.1 - b.2.2) * sz0 a.1 b.1))) (fun t => u (t.1, (t.2.1 + t.2.2) * (1 / 2))) ts := qK_congr (fun _ _ => rfl) fun a _ b _ => by
    unfold ker sz0
    rw [Rat.div_def, Rat.div_def (1 - a.2.1 * b.2.1), Rat.div_def (1 - a.2.2 * b.2.2), Rat.div_def 1 (1 - a.1 * b.1)]
    generalize (1 - a.1 * b.1)⁻¹ = i
    grind
  rw [key]
  rw [qK_add, qK_add, qK_mul, qK_mul, qK_mul]
  have k1 := Rat.mul_nonneg (show (0 : Rat) ≤ 1 / 2 by grind) g1
  have k2 := Rat.mul_nonneg (show (0 : Rat) ≤ 1 / 2 by grind) g2
  have k3 := Rat.mul_nonneg (show (0 : Rat) ≤ 1 / 4 by grind) g3
  grind
/-- fewer points -/
theorem tell_sub {a b : List (Rat × Rat)} (ok : PtsOk (a ++ b)) (h : tell (a ++ b) = true) : PtsOk a ∧ tell a = true := by
  have ok1 : PtsOk a := ⟨fun p hp => ok.pl p (List.mem_append_left _ hp), by have := ok.ne; rw [List.map_append, List.nodup_append] at this; exact this.1, fun p hp => ok.lv p (List.mem_append_left _ hp)⟩
  refine ⟨ok1, (psd_tell ok1).mpr (PsdK.left (fun x hx hx2 => ?_) ((psd_tell ok).mp h))⟩
  have := nodup_of_fst ok.ne
  rw [List.nodup_append] at this
  exact this.2.2 x hx x hx2 rfl
end DL

namespace DL
/-! points with one more, and with two more -/
section
variable {P0 : List (Rat × Rat)} {x y v w : Rat}
theorem wp_perm' (h : ∀ p ∈ P0, p.1 ≠ x) : (wp P0 x v).Perm (P0 ++ [(x, v)]) := (wp_perm h).trans (List.perm_append_singleton _ _).symm
theorem wp_ok (ok : PtsOk P0) (h : ∀ p ∈ P0, p.1 ≠ x) (hx : Pl x) (hv : Lv v) : PtsOk (wp P0 x v) := (ok.add h hx hv).perm (wp_perm h).symm
theorem app_ok (ok : PtsOk P0) (h : ∀ p ∈ P0, p.1 ≠ x) (hx : Pl x) (hv : Lv v) : PtsOk (P0 ++ [(x, v)]) := (wp_ok ok h hx hv).perm (wp_perm' h)
theorem wp_ne (h : ∀ p ∈ P0, p.1 ≠ x) (h2 : ∀ p ∈ P0, p.1 ≠ y) (hxy : x ≠ y) : ∀ p ∈ wp P0 x v, p.1 ≠ y := fun p hp => by
  have := (wp_perm h).mem_iff.mp hp
  rcases List.mem_cons.mp this with rfl | hp
  · exact hxy
  · exact h2 p hp
theorem wp_tell (ok : PtsOk P0) (h : ∀ p ∈ P0, p.1 ≠ x) (hx : Pl x) (hv : Lv v) : tell (wp P0 x v) = tell (P0 ++ [(x, v)]) := tell_perm (wp_perm' h) (wp_ok ok h hx hv)
theorem wp2_perm (h : ∀ p ∈ P0, p.1 ≠ x) (h2 : ∀ p ∈ P0, p.1 ≠ y) (hxy : x ≠ y) : (wp (wp P0 x v) y w).Perm (P0 ++ [(x, v), (y, w)]) := by
  refine (wp_perm' (wp_ne h h2 hxy)).trans ?_
  have := (wp_perm' (v := v) h).append_right [(y, w)]
  simpa using this
theorem wp2_tell (ok : PtsOk P0) (h : ∀ p ∈ P0, p.1 ≠ x) (h2 : ∀ p ∈ P0, p.1 ≠ y) (hxy : x ≠ y) (hx : Pl x) (hy : Pl y) (hv : Lv v) (hw : Lv w) : tell (wp (wp P0 x v) y w) = tell (P0 ++ [(x, v), (y, w)]) :=
  tell_perm (wp2_perm h h2 hxy) (wp_ok (wp_ok ok h hx hv) (wp_ne h h2 hxy) hy hw)
theorem app2_ok (ok : PtsOk P0) (h : ∀ p ∈ P0, p.1 ≠ x) (h2 : ∀ p ∈ P0, p.1 ≠ y) (hxy : x ≠ y) (hx : Pl x) (hy : Pl y) (hv : Lv v) (hw : Lv w) : PtsOk (P0 ++ [(x, v), (y, w)]) :=
  (wp_ok (wp_ok ok h hx hv) (wp_ne h h2 hxy) hy hw).perm (wp2_perm h h2 hxy)
theorem rng1 (ok : PtsOk P0) (h : ∀ p ∈ P0, p.1 ≠ x) (hx : Pl x) (ht : tell P0 = true) :
    Lv (rng P0 x).1 ∧ Lv (rng P0 x).2 ∧ (rng P0 x).1 ≤ (rng P0 x).2 ∧ ∀ v, Lv v → (tell (wp P0 x v) = true ↔ (rng P0 x).1 ≤ v ∧ v ≤ (rng P0 x).2) := by
  obtain ⟨h1, h2, h3, h4, _⟩ := rng_spec ok hx h ht
  exact ⟨h1, h2, h3, fun v hv => by rw [wp_tell ok h hx hv]; exact h4 v hv⟩
/-- means of two points -/
theorem mean2 {v1 v2 w1 w2 : Rat} (ok : PtsOk P0) (h : ∀ p ∈ P0, p.1 ≠ x) (h2 : ∀ p ∈ P0, p.1 ≠ y) (hxy : x ≠ y) (hx : Pl x) (hy : Pl y) (hv1 : Lv v1) (hv2 : Lv v2) (hw1 : Lv w1) (hw2 : Lv w2)
    (t1 : tell (wp (wp P0 x v1) y w1) = true) (t2 : tell (wp (wp P0 x v2) y w2) = true) :
    Lv ((v1 + v2) * (1 / 2)) ∧ Lv ((w1 + w2) * (1 / 2)) ∧ tell (wp (wp P0 x ((v1 + v2) * (1 / 2))) y ((w1 + w2) * (1 / 2))) = true := by
  have m : ∀ {a b : Rat}, Lv a → Lv b → Lv ((a + b) * (1 / 2)) := fun ha hb => by
    obtain ⟨a1, a2⟩ := ha; obtain ⟨b1, b2⟩ := hb; exact ⟨by grind, by grind⟩
  refine ⟨m hv1 hv2, m hw1 hw2, ?_⟩
  rw [wp2_tell ok h h2 hxy hx hy hv1 hw1] at t1
  rw [wp2_tell ok h h2 hxy hx hy hv2 hw2] at t2
  rw [wp2_tell ok h h2 hxy hx hy (m hv1 hv2) (m hw1 hw2)]
  have id1 : ∀ f : Rat × Rat → Rat, (∀ p ∈ P0, f p = p.2) → P0.map (fun p => (p.1, f p)) = P0 := fun f hf => by
    conv => rhs; rw [← List.map_id P0]
    exact List.map_congr_left fun p hp => by rw [hf p hp]; rfl
  have e1 : ((P0.map fun p => (p.1, p.2, p.2)) ++ [(x, v1, v2), (y, w1, w2)]).map (fun t => (t.1, t.2.1)) = P0 ++ [(x, v1), (y, w1)] := by
    rw [List.map_append, List.map_map]; congr 1; exact id1 (fun p => p.2) fun _ _ => rfl
  have e2 : ((P0.map fun p => (p.1, p.2, p.2)) ++ [(x, v1, v2), (y, w1, w2)]).map (fun t => (t.1, t.2.2)) = P0 ++ [(x, v2), (y, w2)] := by
    rw [List.map_append, List.map_map]; congr 1; exact id1 (fun p => p.2) fun _ _ => rfl
  have e3 : ((P0.map fun p => (p.1, p.2, p.2)) ++ [(x, v1, v2), (y, w1, w2)]).map (fun t => (t.1, (t.2.1 + t.2.2) * (1 / 2))) = P0 ++ [(x, (v1 + v2) * (1 / 2)), (y, (w1 + w2) * (1 / 2))] := by
    rw [List.map_append, List.map_map]; congr 1; exact id1 (fun p => (p.2 + p.2) * (1 / 2)) fun _ _ => by grind
  have := tell_mean (ts := (P0.map fun p => (p.1, p.2, p.2)) ++ [(x, v1, v2), (y, w1, w2)]) (by rw [e1]; exact app2_ok ok h h2 hxy hx hy hv1 hw1) (by rw [e2]; exact app2_ok ok h h2 hxy hx hy hv2 hw2) (by rw [e1]; exact t1) (by rw [e2]; exact t2)
  rw [e3] at this
  exact this.2
/-- a narrower range -/
theorem narrower (ok : PtsOk P0) (h : ∀ p ∈ P0, p.1 ≠ x) (h2 : ∀ p ∈ P0, p.1 ≠ y) (hxy : x ≠ y) (hx : Pl x) (hy : Pl y) (hv : Lv v) (hw : Lv w) (t : tell (wp (wp P0 x v) y w) = true) : tell (wp P0 y w) = true := by
  rw [wp2_tell ok h h2 hxy hx hy hv hw] at t
  rw [wp_tell ok h2 hy hw]
  have pm : (P0 ++ [(x, v), (y, w)]).Perm ((P0 ++ [(y, w)]) ++ [(x, v)]) := by
    rw [List.append_assoc]
    exact (List.Perm.swap _ _ []).append_left P0
  have ok2 := app2_ok ok h h2 hxy hx hy hv hw
  rw [tell_perm pm ok2] at t
  exact (tell_sub (ok2.perm pm) t).2
/-- at an edge of the range the points are full -/
theorem edge (ok : PtsOk P0) (h : ∀ p ∈ P0, p.1 ≠ x) (h2 : ∀ p ∈ P0, p.1 ≠ y) (hxy : x ≠ y) (hx : Pl x) (hy : Pl y) (ht : tell P0 = true) {v : Rat} (hv : v = (rng P0 x).1 ∨ v = (rng P0 x).2) :
    Lv v ∧ tell (wp P0 x v) = true ∧ (rng (wp P0 x v) y).1 = (rng (wp P0 x v) y).2 := by
  obtain ⟨l1, l2, le, hr, f1, f2, _⟩ := rng_spec ok hx h ht
  have hlv : Lv v := by rcases hv with rfl | rfl <;> assumption
  have t0 : tell (P0 ++ [(x, v)]) = true := (hr v hlv).mpr (by rcases hv with rfl | rfl; exact ⟨Rat.le_refl, le⟩; exact ⟨le, Rat.le_refl⟩)
  have full : isPM (lastOf (P0 ++ [(x, v)])) := by rcases hv with rfl | rfl <;> assumption
  have t1 : tell (wp P0 x v) = true := by rw [wp_tell ok h hx hlv]; exact t0
  refine ⟨hlv, t1, ?_⟩
  have ok1 := wp_ok ok h hx hlv
  have full1 : isPM (lastOf (wp P0 x v)) := (sing_last ok1 t1).mpr (((sing_last (app_ok ok h hx hlv) t0).mp full).perm (wp_perm' h).symm)
  exact (rng_spec ok1 hy (wp_ne h h2 hxy) t1).2.2.2.2.2.2 full1
/-- sizes -/
theorem PZ.add {n m m' : Nat} (z : PZ n m P0) (hm : m ≤ m') (h : ∀ p ∈ P0, p.1 ≠ x) (hx : Pl x) (hv : Lv v) (sx : Sz n x) (sv : Sz m' v) (hl : P0.length + 1 ≤ 100) (hb : lsz n m' (P0.length + 1) ≤ 8000000) : PZ n m' (wp P0 x v) := by
  have hlen : (wp P0 x v).length = P0.length + 1 := by rw [(wp_perm h).length_eq]; rfl
  refine ⟨by rw [hlen]; exact hl, wp_ok z.ok h hx hv, fun p hp => ?_, z.n1, by rw [hlen]; exact hb⟩
  have := (wp_perm h).mem_iff.mp hp
  rcases List.mem_cons.mp this with rfl | hp
  · exact ⟨sx, sv⟩
  · exact ⟨(z.sz p hp).1, (z.sz p hp).2.mono hm⟩
theorem wp_len (h : ∀ p ∈ P0, p.1 ≠ x) : (wp P0 x v).length = P0.length + 1 := by rw [(wp_perm h).length_eq]; rfl
theorem rng_sz {n m : Nat} (z : PZ n m P0) (ht : tell P0 = true) (hx : Lv x) (sx : Sz n x) : Sz (lsz n m P0.length + 1) (rng P0 x).1 ∧ Sz (lsz n m P0.length + 1) (rng P0 x).2 := by
  obtain ⟨⟨s, l⟩, e⟩ := Option.isSome_iff_exists.mp ht
  obtain ⟨k1, k2, k3, k4⟩ := ladOf_like _ m rfl z.ok z.sz e
  have hr : rng P0 x = (val x s (endL s l x).1, val x s (endL s l x).2) := by unfold rng; rw [e]
  obtain ⟨p1, p2⟩ := endL_pm s l x
  have kN : vsz n 1 (lszs n m s.length) ≤ lsz n m P0.length + 1 := by
    have h1 := vsz_lszs n s.length m
    have h2 := lsz_mono n m k3
    omega
  rw [hr]
  exact ⟨(val_sz sx k4 (sz_pm (.inr p1))).mono kN, (val_sz sx k4 (sz_pm (.inr p2))).mono kN⟩
theorem lsz_le {n m k c : Nat} (h : 2 ^ k * (m + (2 * n + 2)) ≤ c) : lsz n m k ≤ c := by
  have := lsz_eq n k m
  omega
end
/-- a share of a stretch -/
theorem share_btw {a b : Rat} (h : a ≤ b) {t : Rat} (h0 : 0 ≤ t) (h1 : t ≤ 1) : a ≤ a + t * (b - a) ∧ a + t * (b - a) ≤ b := by
  have k1 := Rat.mul_nonneg h0 (show 0 ≤ b - a by grind)
  have k2 := Rat.mul_nonneg (show 0 ≤ 1 - t by grind) (show 0 ≤ b - a by grind)
  exact ⟨by grind, by grind⟩
theorem share_divInt {v : Int} (h0 : 0 ≤ v) (h1 : v < 5) : 0 ≤ Rat.divInt v 4 ∧ Rat.divInt v 4 ≤ 1 ∧ Sz 3 (Rat.divInt v 4) := by
  have : v = 0 ∨ v = 1 ∨ v = 2 ∨ v = 3 ∨ v = 4 := by omega
  rcases this with rfl | rfl | rfl | rfl | rfl <;> exact ⟨by decide +kernel, by decide +kernel, by unfold Sz; decide +kernel⟩
end DL

/-! The data level: helpers for the defs' proofs. -/
namespace DL
open PySem PySem.Spec PyProof.Rows L2 C8
theorem ite_ {c : Prop} [Decidable c] {A B : Prop} (h1 : c → A) (h2 : ¬c → B) : if c then A else B := by
  by_cases h : c
  · rw [if_pos h]; exact h1 h
  · rw [if_neg h]; exact h2 h
theorem iteY {c : Prop} [Decidable c] {A B : Prop} (h : c) (h1 : A) : if c then A else B := by rw [if_pos h]; exact h1
theorem iteN {c : Prop} [Decidable c] {A B : Prop} (h : ¬c) (h1 : B) : if c then A else B := by rw [if_neg h]; exact h1
theorem iteTT {A B : Prop} (h : A) : if true = true then A else B := by rw [if_pos rfl]; exact h
theorem iteFF {A B : Prop} (h : B) : if false = true then A else B := by rw [if_neg Bool.false_ne_true]; exact h
theorem bool_ {b : Bool} {A B : Prop} (h1 : b = true → A) (h2 : b = false → B) : if b = true then A else B := by
  cases b with
  | true => rw [if_pos rfl]; exact h1 rfl
  | false => rw [if_neg Bool.false_ne_true]; exact h2 rfl
theorem eqv_int (i j : Int) : PyData.eqv (.int i) (.int j) = (i == j) := by simp only [PyData.eqv]
theorem ret0 {n : Nat} {P : KD} {d : D} {st : Store} (h : P d st) : RetP n P d st := .inl h
/-- a fraction -/
def fr (x : Rat) : D := .tup [.int x.num, .int x.den]
def pyR (x : Rat) : PyData := .tuple [.int x.num, .int x.den]
theorem toPy_fr {st : Store} {n : Nat} {x : Rat} : toPy st (n + 2) (fr x) = some (pyR x) := rfl
theorem eqv_fr (x y : Rat) : PyData.eqv (pyR x) (pyR y) = decide (x = y) := by
  unfold pyR
  simp only [PyData.eqv, PyData.eqvAll, Bool.and_true]
  by_cases h : x = y
  · subst h; simp
  · rw [decide_eq_false h]
    rw [Bool.and_eq_false_iff]
    by_cases hn : x.num = y.num
    · refine .inr (beq_eq_false_iff_ne.mpr fun hd => h (Rat.ext hn (by omega)))
    · exact .inl (beq_eq_false_iff_ne.mpr hn)
theorem fr_inj {x y : Rat} (h : fr x = fr y) : x = y := by
  unfold fr at h
  injection h with h
  injection h with h1 h2
  injection h1 with h1
  injection h2 with h2 _
  injection h2 with h2
  exact Rat.ext h1 (by omega)
theorem mulB_of {i j : Int} (h1 : i.natAbs.log2 < 40000000) (h2 : j.natAbs.log2 < 40000000) : MulB i j := by unfold MulB; omega
theorem Bd.nn {x y : Rat} (hx : Bd x) (hy : Bd y) : MulB x.num y.num := mulB_of hx.1 hy.1
theorem Bd.nd {x y : Rat} (hx : Bd x) (hy : Bd y) : MulB x.num y.den := mulB_of hx.1 (by simpa using hy.2)
theorem Bd.dn {x y : Rat} (hx : Bd x) (hy : Bd y) : MulB x.den y.num := mulB_of (by simpa using hx.2) hy.1
theorem Bd.dd {x y : Rat} (hx : Bd x) (hy : Bd y) : MulB x.den y.den := mulB_of (by simpa using hx.2) (by simpa using hy.2)
def c_ZERO : D := .tup [.int 0, .int 1]
def c_ONE : D := .tup [.int 1, .int 1]
theorem c_ZERO_eq : c_ZERO = fr 0 := rfl
theorem c_ONE_eq : c_ONE = fr 1 := rfl
theorem map_get {α β : Type} {f : α → β} {xs : List α} {i : Nat} {y : β} (h : (xs.map f)[i]? = some y) : ∃ a, xs[i]? = some a ∧ y = f a := by
  rw [List.getElem?_map] at h
  cases q : xs[i]? with
  | none => rw [q] at h; cases h
  | some a => rw [q] at h; cases h; exact ⟨a, rfl, rfl⟩
theorem take_get {α : Type} {xs : List α} {i : Nat} {a : α} (h : xs[i]? = some a) : xs.take (i + 1) = xs.take i ++ [a] := by
  rw [List.take_add_one, h]; rfl
theorem get_at {α : Type} (s : List α) (a : α) (t : List α) : (s ++ a :: t)[s.length]? = some a := by
  rw [List.getElem?_append_right (Nat.le_refl _), Nat.sub_self]; rfl
theorem get_at1 {α : Type} (s : List α) (a : α) : (s ++ [a])[s.length]? = some a := get_at s a []
theorem set_at {α : Type} (s : List α) (a b : α) (t : List α) : (s ++ a :: t).set s.length b = s ++ b :: t := by
  rw [List.set_append_right _ _ (Nat.le_refl _), Nat.sub_self]; rfl
theorem set_at1 {α : Type} (s : List α) (a b : α) : (s ++ [a]).set s.length b = s ++ [b] := set_at s a b []
theorem get_in {α : Type} {s t : List α} {i : Nat} {a : α} (h : s[i]? = some a) : (s ++ t)[i]? = some a := by
  obtain ⟨hi, _⟩ := List.getElem?_eq_some_iff.mp h
  rw [List.getElem?_append_left hi]; exact h
/-- a comprehension without a test, its elements' making leaving the store as it is -/
theorem lc_yes {own : List Nat} {te : DE} {env : Env} {P : KD} {items : List D} {keep : Store → Prop} {s1 : Store} (ys : List D) (hl : ys.length = items.length) (h5 : items.length < 10000) (hk : ∀ acc, keep (s1 ++ [acc]))
    (h : ∀ (i : Nat) (x y : D), items[i]? = some x → ys[i]? = some y → ∃ e2, ctgt own x env = some e2 ∧ ∀ acc P', P' y (s1 ++ [acc]) → te e2 (s1 ++ [acc]) P') (hP : P (.ref s1.length) (s1 ++ [ys])) : lcBody own dYes te env P ⟨items, keep⟩ s1 := by
  refine ⟨fun i s => s = s1 ++ [ys.take i], by simp, ?_, ?_, ?_⟩
  · rintro i _ rfl; exact hk _
  · rintro i x _ hx rfl
    have hx' : items[i]? = some x := hx
    obtain ⟨hi, _⟩ := List.getElem?_eq_some_iff.mp hx'
    have hy := List.getElem?_eq_getElem (l := ys) (i := i) (by omega)
    obtain ⟨e2, he, ht⟩ := h i x _ hx' hy
    rw [he]
    refine ht (ys.take i) _ ?_
    refine ⟨_, get_at1 _ _, ?_, ?_⟩
    · rw [List.length_take]; omega
    · show (s1 ++ [ys.take i]).set s1.length (ys.take i ++ [ys[i]]) = s1 ++ [ys.take (i + 1)]
      rw [set_at1, take_get hy]
  · rintro _ rfl
    show P _ (s1 ++ [ys.take items.length])
    rw [← hl, List.take_length]
    exact hP
/-- .. with a test; acc i: what stands after i items -/
theorem lc_if {own : List Nat} {tt : DT} {te : DE} {env : Env} {P : KD} {items : List D} {keep : Store → Prop} {s1 : Store} (acc : Nat → List D) (h0 : acc 0 = []) (h5 : ∀ i, i < items.length → (acc i).length < 10000) (hk : ∀ a, keep (s1 ++ [a]))
    (h : ∀ (i : Nat) (x : D), items[i]? = some x → ∃ e2 b, ctgt own x env = some e2 ∧ (∀ (a : List D) (P' : Bool → Store → Prop), P' b (s1 ++ [a]) → tt e2 (s1 ++ [a]) P') ∧
      (b = true → ∃ y, acc (i + 1) = acc i ++ [y] ∧ ∀ (a : List D) (P' : KD), P' y (s1 ++ [a]) → te e2 (s1 ++ [a]) P') ∧ (b = false → acc (i + 1) = acc i)) (hP : P (.ref s1.length) (s1 ++ [acc items.length])) : lcBody own tt te env P ⟨items, keep⟩ s1 := by
  refine ⟨fun i s => s = s1 ++ [acc i], by show s1 ++ [[]] = s1 ++ [acc 0]; rw [h0], ?_, ?_, ?_⟩
  · rintro i _ rfl; exact hk _
  · rintro i x _ hx rfl
    obtain ⟨hi, _⟩ := List.getElem?_eq_some_iff.mp (show items[i]? = some x from hx)
    obtain ⟨e2, b, he, ht, hy, hn⟩ := h i x hx
    rw [he]
    refine ht _ _ (bool_ (fun e => ?_) (fun e => ?_))
    · obtain ⟨y, e1, t⟩ := hy e
      refine t (acc i) _ ?_
      refine ⟨_, get_at1 _ _, h5 i hi, ?_⟩
      show (s1 ++ [acc i]).set s1.length (acc i ++ [y]) = s1 ++ [acc (i + 1)]
      rw [set_at1, e1]
    · show s1 ++ [acc i] = s1 ++ [acc (i + 1)]
      rw [hn e]
  · rintro _ rfl
    exact hP
theorem clD_fr {n : Nat} {x : Rat} : clD n (fr x) = true := by simp [fr, clD, clDs]
end DL

namespace DL
open PySem PySem.Spec PyProof.Rows L2 C8
local macro_rules | `(tactic| walk_at "dl") => `(tactic| dsimp only [dVar, dC, dOp, dUn, dB, dChain, dAnd, dOr, dNot, dAndV, dOrV, dNotV, dIfE, dNil, dCons, dTup, dLst, dCall, dBlt, dSl, dNoPart, dPart, dgName, dgCons, dgNil, dgTup, dgSub, dSeq, dNext, dAsg, dPar, dAug, dExpr, dRet, dRetN, dIf, dWhile, dFor, iSeq, iRng1D, iRng2D, dLc, dAppend, dPop, dRev, dGc, rAddD, rSubD, rMulD, rFdivX, rModD, rNegD, rCmpD, rIxD, seqD, startD, bodyEnds, fr, rLenD, rAbsD, rListD, rTupleD, List.map_cons, List.map_nil, List.cons_append, List.nil_append, List.getElem?_cons_zero, List.getElem?_cons_succ])

def sp_common : DSp := fun ds st P => ∃ a b : Int, ds = [.int a, .int b] ∧ P (.int (Int.gcd a b)) st
def b_common : DS := (dSeq (dPar 0 1 (dCons (dBlt rAbsD (dCons (dVar 0) dNil)) (dCons (dBlt rAbsD (dCons (dVar 1) dNil)) dNil)))
  (dSeq (dWhile (dB (dOp rGtD (dVar 1) (dC (.int 0)))) (dPar 0 1 (dCons (dVar 1) (dCons (dOp rModD (dVar 0) (dVar 1)) dNil))))
  (dRet (dVar 0))))
theorem abs_if (i : Int) : (if i < 0 then -i else i) = (i.natAbs : Int) := by split <;> omega
theorem v_common : ∀ ds st P, ds.length = 2 → clSt st.length st = true → clDs st.length ds = true → sp_common ds st P → b_common (bodyEnds st.length P) (startD 2 ds) st := by
  rintro _ st P _ _ _ ⟨a, b, rfl, h⟩
  refine ⟨fun m env st' => ∃ x : Nat, env = [some (.int x), some (.int m)] ∧ st' = st ∧ Nat.gcd x m = Int.gcd a b, ⟨b.natAbs, a.natAbs, ?_, rfl, rfl⟩, ?_⟩
  · show [some (D.int (if a < 0 then -a else a)), some (D.int (if b < 0 then -b else b))] = _
    rw [abs_if, abs_if]
  · rintro y _ _ ⟨x, rfl, rfl, hg⟩
    refine bool_ (fun hy => ?_) (fun hy => ?_)
    · have hy : (0 : Int) < y := of_decide_eq_true hy
      refine ⟨by omega, x % y, ?_, y, ?_, rfl, ?_⟩
      · exact Nat.mod_lt _ (by omega)
      · show [some (D.int y), some (D.int ((x : Int).fmod y))] = _
        rw [Int.fmod_eq_emod_of_nonneg _ (by omega)]
        rfl
      · rw [← hg, Nat.gcd_comm x y, Nat.gcd_comm y (x % y), ← Nat.gcd_rec]
    · have hy : ¬ (0 : Int) < y := of_decide_eq_false hy
      have : y = 0 := by omega
      subst this
      rw [Nat.gcd_zero_right] at hg
      refine ret0 ?_
      show P (.int x) _
      rw [hg]
      exact h

def sp_fraction : DSp := fun ds st P => ∃ p q : Int, ds = [.int p, .int q] ∧ q ≠ 0 ∧ P (fr (Rat.divInt p q)) st
def b_fraction : DS := (dSeq (dIf (dB (dOp rEqD' (dVar 1) (dC (.int 0)))) dNever dNext)
  (dSeq (dAsg (dIfE (dB (dOp rGtD (dVar 1) (dC (.int 0)))) (dCall 2 sp_common (dCons (dVar 0) (dCons (dVar 1) dNil))) (dUn rNegD (dCall 2 sp_common (dCons (dVar 0) (dCons (dVar 1) dNil))))) (dgName 2))
  (dRet (dTup (dCons (dOp rFdivX (dVar 0) (dVar 2)) (dCons (dOp rFdivX (dVar 1) (dVar 2)) dNil))))))
theorem v_fraction : ∀ ds st P, ds.length = 2 → clSt st.length st = true → clDs st.length ds = true → sp_fraction ds st P → b_fraction (bodyEnds st.length P) (startD 3 ds) st := by
  rintro _ st P _ _ _ ⟨p, q, rfl, hq, h⟩
  have hg : ((Int.gcd p q : Nat) : Int) ≠ 0 := by
    have := Int.gcd_pos_of_ne_zero_right p hq
    omega
  refine bool_ (fun e => ?_) (fun e => ?_)
  · have e : PyData.eqv (.int q) (.int 0) = true := e
    rw [eqv_int] at e
    exact (hq (eq_of_beq e)).elim
  · refine bool_ (fun e => ?_) (fun e => ?_)
    · have e : (0 : Int) < q := of_decide_eq_true e
      refine ⟨rfl, p, q, rfl, hg, hg, by show 2 ≤ 10000; omega, ret0 ?_⟩
      show P (.tup [.int (p.fdiv (Int.gcd p q : Nat)), .int (q.fdiv (Int.gcd p q : Nat))]) st
      rw [(frac_pos e).1, (frac_pos e).2]
      exact h
    · have e : ¬ (0 : Int) < q := of_decide_eq_false e
      have e : q < 0 := by omega
      refine ⟨rfl, p, q, rfl, by omega, by omega, by show 2 ≤ 10000; omega, ret0 ?_⟩
      show P (.tup [.int (p.fdiv (-(Int.gcd p q : Nat))), .int (q.fdiv (-(Int.gcd p q : Nat)))]) st
      rw [(frac_neg e).1, (frac_neg e).2]
      exact h

def sp_plus : DSp := fun ds st P => ∃ x y : Rat, ds = [fr x, fr y] ∧ Bd x ∧ Bd y ∧ P (fr (x + y)) st
def b_plus : DS := (dRet (dCall 2 sp_fraction (dCons (dOp rAddD (dOp rMulD (dOp rIxD (dVar 0) (dC (.int 0))) (dOp rIxD (dVar 1) (dC (.int 1)))) (dOp rMulD (dOp rIxD (dVar 1) (dC (.int 0))) (dOp rIxD (dVar 0) (dC (.int 1))))) (dCons (dOp rMulD (dOp rIxD (dVar 0) (dC (.int 1))) (dOp rIxD (dVar 1) (dC (.int 1)))) dNil))))
theorem den_mul_ne (x y : Rat) : (x.den : Int) * y.den ≠ 0 := Int.mul_ne_zero (den_ne x) (den_ne y)
theorem v_plus : ∀ ds st P, ds.length = 2 → clSt st.length st = true → clDs st.length ds = true → sp_plus ds st P → b_plus (bodyEnds st.length P) (startD 2 ds) st := by
  rintro _ st P _ _ _ ⟨x, y, rfl, hx, hy, h⟩
  refine ⟨hx.nd hy, hy.nd hx, hx.dd hy, rfl, _, _, rfl, den_mul_ne x y, ret0 ?_⟩
  rw [add_divInt]
  exact h

def sp_minus : DSp := fun ds st P => ∃ x y : Rat, ds = [fr x, fr y] ∧ Bd x ∧ Bd y ∧ P (fr (x - y)) st
def b_minus : DS := (dRet (dCall 2 sp_fraction (dCons (dOp rSubD (dOp rMulD (dOp rIxD (dVar 0) (dC (.int 0))) (dOp rIxD (dVar 1) (dC (.int 1)))) (dOp rMulD (dOp rIxD (dVar 1) (dC (.int 0))) (dOp rIxD (dVar 0) (dC (.int 1))))) (dCons (dOp rMulD (dOp rIxD (dVar 0) (dC (.int 1))) (dOp rIxD (dVar 1) (dC (.int 1)))) dNil))))
theorem v_minus : ∀ ds st P, ds.length = 2 → clSt st.length st = true → clDs st.length ds = true → sp_minus ds st P → b_minus (bodyEnds st.length P) (startD 2 ds) st := by
  rintro _ st P _ _ _ ⟨x, y, rfl, hx, hy, h⟩
  refine ⟨hx.nd hy, hy.nd hx, hx.dd hy, rfl, _, _, rfl, den_mul_ne x y, ret0 ?_⟩
  rw [sub_divInt]
  exact h

def sp_times : DSp := fun ds st P => ∃ x y : Rat, ds = [fr x, fr y] ∧ Bd x ∧ Bd y ∧ P (fr (x * y)) st
def b_times : DS := (dRet (dCall 2 sp_fraction (dCons (dOp rMulD (dOp rIxD (dVar 0) (dC (.int 0))) (dOp rIxD (dVar 1) (dC (.int 0)))) (dCons (dOp rMulD (dOp rIxD (dVar 0) (dC (.int 1))) (dOp rIxD (dVar 1) (dC (.int 1)))) dNil))))
theorem v_times : ∀ ds st P, ds.length = 2 → clSt st.length st = true → clDs st.length ds = true → sp_times ds st P → b_times (bodyEnds st.length P) (startD 2 ds) st := by
  rintro _ st P _ _ _ ⟨x, y, rfl, hx, hy, h⟩
  refine ⟨hx.nn hy, hx.dd hy, rfl, _, _, rfl, den_mul_ne x y, ret0 ?_⟩
  rw [mul_divInt]
  exact h

def sp_over : DSp := fun ds st P => ∃ x y : Rat, ds = [fr x, fr y] ∧ y ≠ 0 ∧ Bd x ∧ Bd y ∧ P (fr (x / y)) st
def b_over : DS := (dRet (dCall 2 sp_fraction (dCons (dOp rMulD (dOp rIxD (dVar 0) (dC (.int 0))) (dOp rIxD (dVar 1) (dC (.int 1)))) (dCons (dOp rMulD (dOp rIxD (dVar 0) (dC (.int 1))) (dOp rIxD (dVar 1) (dC (.int 0)))) dNil))))
theorem v_over : ∀ ds st P, ds.length = 2 → clSt st.length st = true → clDs st.length ds = true → sp_over ds st P → b_over (bodyEnds st.length P) (startD 2 ds) st := by
  rintro _ st P _ _ _ ⟨x, y, rfl, h0, hx, hy, h⟩
  have hn : y.num ≠ 0 := fun e => h0 (Rat.num_eq_zero.mp e)
  refine ⟨hx.nd hy, hx.dn hy, rfl, _, _, rfl, Int.mul_ne_zero (den_ne x) hn, ret0 ?_⟩
  rw [div_divInt]
  exact h

def sp_less : DSp := fun ds st P => ∃ x y : Rat, ds = [fr x, fr y] ∧ Bd x ∧ Bd y ∧ P (.bl (decide (x < y))) st
def b_less : DS := (dRet (dOp rLtD (dOp rMulD (dOp rIxD (dVar 0) (dC (.int 0))) (dOp rIxD (dVar 1) (dC (.int 1)))) (dOp rMulD (dOp rIxD (dVar 1) (dC (.int 0))) (dOp rIxD (dVar 0) (dC (.int 1))))))
theorem less_dec (x y : Rat) : decide (x.num * y.den < y.num * x.den) = decide (x < y) := decide_eq_decide.mpr (Rat.lt_iff x y).symm
theorem v_less : ∀ ds st P, ds.length = 2 → clSt st.length st = true → clDs st.length ds = true → sp_less ds st P → b_less (bodyEnds st.length P) (startD 2 ds) st := by
  rintro _ st P _ _ _ ⟨x, y, rfl, hx, hy, h⟩
  refine ⟨hx.nd hy, hy.nd hx, ret0 ?_⟩
  show P (.bl (decide (x.num * y.den < y.num * x.den))) st
  rw [less_dec]
  exact h

def isInt : D → Bool
  | .int _ => true
  | _ => false
def isNum : D → Bool
  | .int _ => true
  | .bl _ => true
  | _ => false
def isBl : D → Bool
  | .bl _ => true
  | _ => false
def isTup : D → Bool
  | .tup _ => true
  | _ => false
theorem ok2_ {b : Bool} {A B : Prop} (h : b = true) (q : A) : (match D.bl b with | .bl true => A | .bl false => B | _ => False) := by subst h; exact q
theorem kit_int {d : D} {t : String} (e : tyD d = some t) : kitB t "int" = some (isNum d) := by
  cases d <;> cases e <;> (dsimp only [isNum]; decide +kernel)
theorem kit_bool {d : D} {t : String} (e : tyD d = some t) : kitB t "bool" = some (isBl d) := by
  cases d <;> cases e <;> (dsimp only [isBl]; decide +kernel)
theorem kit_tuple {d : D} {t : String} (e : tyD d = some t) : kitB t "tuple" = some (isTup d) := by
  cases d <;> cases e <;> (dsimp only [isTup]; decide +kernel)
def sp_is_whole : DSp := fun ds st P => ∃ d, ds = [d] ∧ (tyD d).isSome = true ∧ P (.bl (isInt d)) st
def b_is_whole : DS := (dRet (dAndV (dBlt rIsiD (dCons (dVar 0) (dCons (dC (.ty "int")) dNil))) (dNotV (dBlt rIsiD (dCons (dVar 0) (dCons (dC (.ty "bool")) dNil))))))
theorem v_is_whole : ∀ ds st P, ds.length = 1 → clSt st.length st = true → clDs st.length ds = true → sp_is_whole ds st P → b_is_whole (bodyEnds st.length P) (startD 1 ds) st := by
  rintro _ st P _ _ _ ⟨d, rfl, hd, h⟩
  obtain ⟨t, e⟩ := Option.isSome_iff_exists.mp hd
  refine ok_ e (ok_ (kit_int e) ?_)
  cases hn : isNum d with
  | true =>
    refine ok_ e (ok_ (kit_bool e) (ret0 ?_))
    show P (.bl (!isBl d)) st
    rw [show (!isBl d) = isInt d by cases d <;> first | rfl | cases hn]
    exact h
  | false =>
    refine ret0 ?_
    rw [show isInt d = false by cases d <;> first | rfl | cases hn] at h
    exact h

def isFrac : D → Bool
  | .tup [.int p, .int q] => decide (0 < q) && (Int.gcd p q == 1)
  | _ => false
theorem isFrac_len {xs : List D} (h : xs.length ≠ 2) : isFrac (.tup xs) = false := by
  unfold isFrac
  split
  · rename_i e
    cases e
    simp at h
  · rfl
/-- no type within a pair -/
def vD : D → Bool
  | .tup [a, b] => (tyD a).isSome && (tyD b).isSome
  | d => (tyD d).isSome
theorem vD_ty {d : D} (h : vD d = true) : (tyD d).isSome = true := by
  unfold vD at h
  split at h
  · rfl
  · exact h
def sp_is_fraction : DSp := fun ds st P => ∃ d, ds = [d] ∧ vD d = true ∧ P (.bl (isFrac d)) st
def b_is_fraction : DS := (dSeq (dIf (dOr (dNot (dB (dBlt rIsiD (dCons (dVar 0) (dCons (dC (.ty "tuple")) dNil))))) (dOr (dB (dOp rNeD' (dBlt rLenD (dCons (dVar 0) dNil)) (dC (.int 2)))) (dOr (dNot (dB (dCall 1 sp_is_whole (dCons (dOp rIxD (dVar 0) (dC (.int 0))) dNil)))) (dNot (dB (dCall 1 sp_is_whole (dCons (dOp rIxD (dVar 0) (dC (.int 1))) dNil))))))) (dRet (dC (.bl false))) dNext)
  (dRet (dAndV (dOp rGtD (dOp rIxD (dVar 0) (dC (.int 1))) (dC (.int 0))) (dOp rEqD' (dCall 2 sp_common (dCons (dOp rIxD (dVar 0) (dC (.int 0))) (dCons (dOp rIxD (dVar 0) (dC (.int 1))) dNil))) (dC (.int 1))))))
theorem v_is_fraction : ∀ ds st P, ds.length = 1 → clSt st.length st = true → clDs st.length ds = true → sp_is_fraction ds st P → b_is_fraction (bodyEnds st.length P) (startD 1 ds) st := by
  rintro _ st P _ _ _ ⟨d, rfl, hd, h⟩
  obtain ⟨t, e⟩ := Option.isSome_iff_exists.mp (vD_ty hd)
  refine ok_ e (ok_ (kit_tuple e) ?_)
  cases d with
  | tup xs =>
    cases e
    refine bool_ (fun h0 => by cases h0) (fun _ => ?_)
    have go : ∀ b : Bool, PyData.eqv (.int xs.length) (.int 2) = b → (xs.length == 2) = b := fun b e => by
      rw [← e, eqv_int, Bool.eq_iff_iff]
      simp only [beq_iff_eq]
      omega
    refine bool_ (fun h2 => ?_) (fun h2 => ?_)
    · have h2 := go false (by have : (!PyData.eqv (.int xs.length) (.int 2)) = true := h2; simpa using this)
      rw [isFrac_len (by simpa using h2)] at h
      exact ret0 h
    · have h2 := go true (by have : (!PyData.eqv (.int xs.length) (.int 2)) = false := h2; simpa using this)
      obtain ⟨a, b, rfl⟩ : ∃ a b, xs = [a, b] := by
        match xs, h2 with
        | [a, b], _ => exact ⟨a, b, rfl⟩
        | [], h2 => simp at h2
        | [_], h2 => simp at h2
        | _ :: _ :: _ :: _, h2 => simp at h2
      have hd : ((tyD a).isSome && (tyD b).isSome) = true := hd
      rw [Bool.and_eq_true] at hd
      refine ⟨rfl, a, rfl, hd.1, ?_⟩
      cases a with
      | int p =>
        refine ⟨rfl, b, rfl, hd.2, ?_⟩
        cases b with
        | int q =>
          have hf : isFrac (.tup [.int p, .int q]) = (decide (0 < q) && (Int.gcd p q == 1)) := rfl
          rw [hf] at h
          refine bool_ (fun h0 => by cases h0) (fun _ => ?_)
          show (match (D.bl (decide (0 < q))) with | .bl true => _ | .bl false => _ | _ => False)
          by_cases hq : (0 : Int) < q
          · rw [decide_eq_true hq] at h ⊢
            refine ⟨rfl, p, q, rfl, ret0 ?_⟩
            show P (.bl (PyData.eqv (.int (Int.gcd p q : Nat)) (.int 1))) st
            rw [eqv_int]
            have : (((Int.gcd p q : Nat) : Int) == 1) = (Int.gcd p q == 1) := by
              rw [Bool.eq_iff_iff]
              simp only [beq_iff_eq]
              omega
            rw [this]
            exact h
          · rw [decide_eq_false hq] at h ⊢
            exact ret0 h
        | _ => exact ret0 h
      | _ => exact ret0 h
  | ty i => cases e
  | _ => cases e; exact ret0 h
theorem isFrac_fr (x : Rat) : isFrac (fr x) = true := by
  show (decide ((0 : Int) < x.den) && _) = true
  rw [decide_eq_true (by have := x.den_pos; omega), Bool.true_and]
  have := x.reduced
  unfold Nat.Coprime at this
  simp [Int.gcd, this]
theorem vD_fr (x : Rat) : vD (fr x) = true := rfl

def sp_is_level : DSp := fun ds st P => ∃ x, ds = [fr x] ∧ P (.bl (decide (Lv x))) st
def b_is_level : DS := (dRet (dAndV (dCall 1 sp_is_fraction (dCons (dVar 0) dNil)) (dChain rLeD rLeD (dUn rNegD (dOp rIxD (dVar 0) (dC (.int 1)))) (dOp rIxD (dVar 0) (dC (.int 0))) (dOp rIxD (dVar 0) (dC (.int 1))))))
theorem v_is_level : ∀ ds st P, ds.length = 1 → clSt st.length st = true → clDs st.length ds = true → sp_is_level ds st P → b_is_level (bodyEnds st.length P) (startD 1 ds) st := by
  rintro _ st P _ _ _ ⟨x, rfl, h⟩
  refine ⟨rfl, fr x, rfl, vD_fr x, ?_⟩
  rw [isFrac_fr]
  walk_at "dl"
  by_cases h1 : -(x.den : Int) ≤ x.num
  · show (match (D.bl (decide (-(x.den : Int) ≤ x.num))) with | .bl true => _ | .bl false => _ | _ => False)
    rw [decide_eq_true h1]
    refine ret0 ?_
    show P (.bl (decide (x.num ≤ x.den))) st
    have : decide (x.num ≤ x.den) = decide (Lv x) := decide_eq_decide.mpr ⟨fun h2 => ⟨neg_den_le_num.mp h1, num_le_den.mp h2⟩, fun h2 => num_le_den.mpr h2.2⟩
    rw [this]; exact h
  · show (match (D.bl (decide (-(x.den : Int) ≤ x.num))) with | .bl true => _ | .bl false => _ | _ => False)
    rw [decide_eq_false h1]
    rw [decide_eq_false (fun h2 : Lv x => h1 (neg_den_le_num.mpr h2.1))] at h
    exact ret0 h

def sp_turn : DSp := fun ds st P => ∃ (a x : Rat) (n : Nat), ds = [fr a, fr x] ∧ Sz n a ∧ Sz n x ∧ n ≤ 8000000 ∧ 1 - a * x ≠ 0 ∧ P (fr (tn a x)) st
def b_turn : DS := (dRet (dCall 2 sp_over (dCons (dCall 2 sp_minus (dCons (dVar 1) (dCons (dVar 0) dNil))) (dCons (dCall 2 sp_minus (dCons (dC c_ONE) (dCons (dCall 2 sp_times (dCons (dVar 0) (dCons (dVar 1) dNil))) dNil))) dNil))))
theorem v_turn : ∀ ds st P, ds.length = 2 → clSt st.length st = true → clDs st.length ds = true → sp_turn ds st P → b_turn (bodyEnds st.length P) (startD 2 ds) st := by
  rintro _ st P _ _ _ ⟨a, x, n, rfl, ha, hx, hn, h0, h⟩
  have h1 := sz_pos ha
  exact ⟨rfl, x, a, rfl, hx.bd (by omega), ha.bd (by omega), rfl, a, x, rfl, ha.bd (by omega), hx.bd (by omega), rfl, 1, _, rfl, sz_one.bd (by omega), (ha.mul hx).bd (by omega), rfl, _, _, rfl, h0, (hx.sub ha).bd (by omega), (sz_one.sub (ha.mul hx)).bd (by omega), ret0 h⟩

def sp_lifted : DSp := fun ds st P => ∃ (a x : Rat) (n : Nat), ds = [fr a, fr x] ∧ Sz n a ∧ Sz n x ∧ n ≤ 8000000 ∧ 1 + a * x ≠ 0 ∧ P (fr (lf a x)) st
def b_lifted : DS := (dRet (dCall 2 sp_over (dCons (dCall 2 sp_plus (dCons (dVar 0) (dCons (dVar 1) dNil))) (dCons (dCall 2 sp_plus (dCons (dC c_ONE) (dCons (dCall 2 sp_times (dCons (dVar 0) (dCons (dVar 1) dNil))) dNil))) dNil))))
theorem v_lifted : ∀ ds st P, ds.length = 2 → clSt st.length st = true → clDs st.length ds = true → sp_lifted ds st P → b_lifted (bodyEnds st.length P) (startD 2 ds) st := by
  rintro _ st P _ _ _ ⟨a, x, n, rfl, ha, hx, hn, h0, h⟩
  have h1 := sz_pos ha
  exact ⟨rfl, a, x, rfl, ha.bd (by omega), hx.bd (by omega), rfl, a, x, rfl, ha.bd (by omega), hx.bd (by omega), rfl, 1, _, rfl, sz_one.bd (by omega), (ha.mul hx).bd (by omega), rfl, _, _, rfl, h0, (ha.add hx).bd (by omega), (sz_one.add (ha.mul hx)).bd (by omega), ret0 h⟩

def sp_lowered : DSp := fun ds st P => ∃ (a x : Rat) (n : Nat), ds = [fr a, fr x] ∧ Sz n a ∧ Sz n x ∧ n ≤ 8000000 ∧ 1 - a * x ≠ 0 ∧ P (fr (tn a x)) st
def b_lowered : DS := (dRet (dCall 2 sp_over (dCons (dCall 2 sp_minus (dCons (dVar 1) (dCons (dVar 0) dNil))) (dCons (dCall 2 sp_minus (dCons (dC c_ONE) (dCons (dCall 2 sp_times (dCons (dVar 0) (dCons (dVar 1) dNil))) dNil))) dNil))))
theorem v_lowered : ∀ ds st P, ds.length = 2 → clSt st.length st = true → clDs st.length ds = true → sp_lowered ds st P → b_lowered (bodyEnds st.length P) (startD 2 ds) st := by
  rintro _ st P _ _ _ ⟨a, x, n, rfl, ha, hx, hn, h0, h⟩
  have h1 := sz_pos ha
  exact ⟨rfl, x, a, rfl, hx.bd (by omega), ha.bd (by omega), rfl, a, x, rfl, ha.bd (by omega), hx.bd (by omega), rfl, 1, _, rfl, sz_one.bd (by omega), (ha.mul hx).bd (by omega), rfl, _, _, rfl, h0, (hx.sub ha).bd (by omega), (sz_one.sub (ha.mul hx)).bd (by omega), ret0 h⟩
/-! ladders and points as data -/
def ptD (p : Rat × Rat) : D := .tup [fr p.1, fr p.2]
def ptsD (ps : List (Rat × Rat)) : D := .tup (ps.map ptD)
def ladD (s : List (Rat × Rat)) (l : Rat) : D := .tup [ptsD s, fr l]

def sp_value_on : DSp := fun ds st P => ∃ (s : List (Rat × Rat)) (l x : Rat) (n : Nat), ds = [ladD s l, fr x] ∧ stepsOk s ∧ Lv l ∧ Lv x ∧ n ≤ 2000000 ∧ (∀ p ∈ s, Sz n p.1 ∧ Sz n p.2) ∧ Sz n x ∧ (∀ k, Sz n (val x (s.drop k) l)) ∧ P (fr (val x s l)) st
def b_value_on : DS := (dSeq (dAsg (dOp rIxD (dVar 0) (dC (.int 1))) (dgName 2))
  (dSeq (dFor (iSeq (dRev (dOp rIxD (dVar 0) (dC (.int 0))))) (dgTup (dgCons (dgName 3) (dgCons (dgName 4) dgNil)) 2) (dAsg (dCall 2 sp_lifted (dCons (dVar 4) (dCons (dCall 2 sp_times (dCons (dCall 2 sp_turn (dCons (dVar 3) (dCons (dVar 1) dNil))) (dCons (dVar 2) dNil))) dNil))) (dgName 2)))
  (dRet (dVar 2))))
theorem drop_rev {α : Type} {s : List α} {i : Nat} {p : α} (h : s.reverse[i]? = some p) : p ∈ s ∧ s.drop (s.length - (i + 1)) = p :: s.drop (s.length - i) := by
  obtain ⟨hi, e⟩ := List.getElem?_eq_some_iff.mp h
  have hi' : i < s.length := by simpa using hi
  rw [List.getElem_reverse] at e
  refine ⟨by rw [← e]; exact List.getElem_mem _, ?_⟩
  have h2 : s.length - (i + 1) < s.length := by omega
  rw [List.drop_eq_getElem_cons h2, show s.length - (i + 1) + 1 = s.length - i by omega]
  congr 1
  rw [← e]
  congr 1
  omega
theorem v_value_on : ∀ ds st P, ds.length = 2 → clSt st.length st = true → clDs st.length ds = true → sp_value_on ds st P → b_value_on (bodyEnds st.length P) (startD 5 ds) st := by
  rintro _ st P _ _ _ ⟨s, l, x, n, rfl, hs, hl, hx, hn, hsz, hxs, hv, h⟩
  refine ⟨fun i e st' => st' = st ∧ ∃ y3 y4, e = [some (ladD s l), some (fr x), some (fr (val x (s.drop (s.length - i)) l)), y3, y4], ⟨rfl, none, none, ?_⟩, fun _ _ _ _ => trivial, ?_, ?_⟩
  · rw [Nat.sub_zero, List.drop_length]; rfl
  · rintro i y _ _ hy ⟨rfl, y3, y4, rfl⟩
    have hy : ((s.map ptD).reverse)[i]? = some y := hy
    rw [← List.map_reverse] at hy
    obtain ⟨p, hp, rfl⟩ := map_get hy
    obtain ⟨hm, hd⟩ := drop_rev hp
    have n1 := sz_pos hxs
    have hv1 := val_lv hx (s := s.drop (s.length - i)) (fun q hq => hs q (List.mem_of_mem_drop hq)) hl
    have ht := lv_mul (tn_lv (hs p hm).1 hx) hv1
    have t1 := (hsz p hm).1.tn hxs
    refine ⟨rfl, rfl, p.1, x, n, rfl, (hsz p hm).1, hxs, by omega, ?_, rfl, _, _, rfl, t1.bd (by omega), (hv _).bd (by omega), rfl, p.2, _, 3 * n + 1, rfl, (hsz p hm).2.mono (by omega), (t1.mul (hv _)).mono (by omega), by omega, ?_, rfl, some (fr p.1), some (fr p.2), ?_⟩
    · have := one_sub_pos (hs p hm).1 hx; grind
    · have := one_add_pos (hs p hm).2 ht; grind
    · rw [hd]; rfl
  · rintro _ _ ⟨rfl, y3, y4, rfl⟩
    refine ret0 ?_
    show P (fr (val x (s.drop (s.length - ((s.map ptD).reverse).length)) l)) _
    rw [List.length_reverse, List.length_map, Nat.sub_self]
    exact h

def sp_is_full : DSp := fun ds st P => ∃ (s : List (Rat × Rat)) (l : Rat), ds = [ladD s l] ∧ P (.bl (decide (l = 1 ∨ l = -1))) st
def b_is_full : DS := (dRet (dOp (rInB false) (dOp rIxD (dVar 0) (dC (.int 1))) (dTup (dCons (dC c_ONE) (dCons (dTup (dCons (dUn rNegD (dC (.int 1))) (dCons (dC (.int 1)) dNil))) dNil)))))
theorem in_pm {l : Rat} : inPy (pyR l) [pyR 1, pyR (-1)] = decide (l = 1 ∨ l = -1) := by
  simp only [inPy, eqv_fr, Bool.or_false]
  rw [Bool.eq_iff_iff]
  simp only [Bool.or_eq_true, decide_eq_true_eq]
  constructor
  · rintro (h | h)
    · exact .inl h.symm
    · exact .inr h.symm
  · rintro (h | h)
    · exact .inl h.symm
    · exact .inr h.symm
theorem v_is_full : ∀ ds st P, ds.length = 1 → clSt st.length st = true → clDs st.length ds = true → sp_is_full ds st P → b_is_full (bodyEnds st.length P) (startD 1 ds) st := by
  rintro _ st P _ _ _ ⟨s, l, rfl, h⟩
  refine ⟨by show 2 ≤ 10000; omega, by show 2 ≤ 10000; omega, ret0 ?_⟩
  show P (.bl (inPy (pyR l) [pyR 1, pyR (-1)])) st
  rw [in_pm]
  exact h

def ladO : Option (List (Rat × Rat) × Rat) → D
  | some (s, l) => ladD s l
  | none => .non
def sp_ladder_of : DSp := fun ds st P => ∃ (d : D) (pts : List (Rat × Rat)) (n m : Nat), ds = [d] ∧ seqD st d = some (pts.map ptD) ∧ pts.length ≤ 100 ∧ PtsOk pts ∧ (∀ p ∈ pts, Sz n p.1 ∧ Sz m p.2) ∧ n ≤ 1000000 ∧ lsz n m pts.length ≤ 8000000 ∧ P (ladO (ladOf pts)) st
def b_ladder_of : DS := (dSeq (dAsg (dLst dNil) (dgName 1))
  (dSeq (dAsg (dBlt rListD (dCons (dVar 0) dNil)) (dgName 2))
  (dSeq (dWhile (dB (dOp rGtD (dBlt rLenD (dCons (dVar 2) dNil)) (dC (.int 0)))) (dSeq (dAsg (dOp rIxD (dVar 2) (dC (.int 0))) (dgTup (dgCons (dgName 3) (dgCons (dgName 4) dgNil)) 2))
  (dSeq (dIf (dB (dOp (rInB false) (dVar 4) (dTup (dCons (dC c_ONE) (dCons (dTup (dCons (dUn rNegD (dC (.int 1))) (dCons (dC (.int 1)) dNil))) dNil))))) (dRet (dIfE (dB (dGc (dBlt rAllD (dCons (dLc [9, 7] (iSeq (dVar 2)) dYes (dOp rEqD' (dVar 7) (dVar 4))) dNil)))) (dTup (dCons (dBlt rTupleD (dCons (dVar 1) dNil)) (dCons (dVar 4) dNil))) (dC .non))) dNext)
  (dSeq (dExpr (dAppend (dVar 1) (dTup (dCons (dVar 3) (dCons (dVar 4) dNil)))))
  (dSeq (dAsg (dLst dNil) (dgName 5))
  (dSeq (dFor (iSeq (dSl rSlD (dVar 2) (dPart (dC (.int 1))) dNoPart)) (dgTup (dgCons (dgName 6) (dgCons (dgName 7) dgNil)) 2) (dSeq (dAsg (dCall 2 sp_over (dCons (dCall 2 sp_lowered (dCons (dVar 4) (dCons (dVar 7) dNil))) (dCons (dCall 2 sp_turn (dCons (dVar 3) (dCons (dVar 6) dNil))) dNil))) (dgName 8))
  (dSeq (dIf (dNot (dB (dCall 1 sp_is_level (dCons (dVar 8) dNil)))) (dRet (dC .non)) dNext)
  (dExpr (dAppend (dVar 5) (dTup (dCons (dVar 6) (dCons (dVar 8) dNil))))))))
  (dAsg (dVar 5) (dgName 2))))))))
  (dRet (dTup (dCons (dBlt rTupleD (dCons (dVar 1) dNil)) (dCons (dC c_ZERO) dNil)))))))
theorem clD_pt {n : Nat} {p : Rat × Rat} : clD n (ptD p) = true := by simp [ptD, clD, clDs, clD_fr]
theorem clDs_pts {n : Nat} : ∀ {ps : List (Rat × Rat)}, clDs n (ps.map ptD) = true
  | [] => rfl
  | p :: r => by rw [List.map_cons, clDs, clD_pt, clDs_pts, Bool.and_self]
theorem clD_lad {n : Nat} {s : List (Rat × Rat)} {l : Rat} : clD n (ladD s l) = true := by simp [ladD, ptsD, clD, clDs, clDs_pts, clD_fr]
theorem clD_ladO {n : Nat} {o : Option (List (Rat × Rat) × Rat)} : clD n (ladO o) = true := by
  cases o with
  | none => rfl
  | some p => exact clD_lad
theorem allBl_map {α : Type} (f : α → Bool) : ∀ l : List α, allBl (l.map fun a => D.bl (f a)) = some (l.all f)
  | [] => rfl
  | a :: l => by rw [List.map_cons, allBl, allBl_map f l, List.all_cons]
theorem ret_drop {st g : Store} {P : KD} {d : D} (hc : clSt st.length st = true) (hd : clD st.length d = true) (h : P d st) : RetP st.length P d (st ++ g) := .inr (.inl ⟨st, g, rfl, Nat.le_refl _, hd, hc, h⟩)
theorem ladOf_cons (acc : List (Rat × Rat)) (o : Option (List (Rat × Rat) × Rat)) (p : Rat × Rat) : (match (match o with | some (s, l) => some (p :: s, l) | none => none) with | some (s, l) => some (acc ++ s, l) | none => none) = (match o with | some (s, l) => some ((acc ++ [p]) ++ s, l) | none => none) := by
  cases o with
  | none => rfl
  | some q => simp
theorem cut_tail {x : D} {xs : List D} : cutD (x :: xs) (some 1) none = xs := by
  unfold cutD
  rw [HT.sIx_none, show HT.sIx (x :: xs).length 0 (some 1) = 1 from (HT.sIx_nat _ _ 1).trans (by simp)]
  simp
theorem v_ladder_of : ∀ ds st P, ds.length = 1 → clSt st.length st = true → clDs st.length ds = true → sp_ladder_of ds st P → b_ladder_of (bodyEnds st.length P) (startD 10 ds) st := by
  rintro _ st P _ hcl _ ⟨d, pts, n, m, rfl, hd, h100, hok, hsz, hn, hm, h⟩
  show b_ladder_of _ [some d, none, none, none, none, none, none, none, none, none] st
  have hd2 : seqD (st ++ [[]]) d = some (pts.map ptD) := by
    cases d with
    | ref k => exact get_in hd
    | _ => exact hd
  refine ⟨by show 0 ≤ 10000; omega, ok_ hd2 ?_⟩
  refine ⟨fun k env st' => ∃ (acc lf : List (Rat × Rat)) (q : Nat) (g : Store) (m' : Nat) (y3 y4 y5 y6 y7 y8 y9 : Option D), env = [some d, some (.ref st.length), some (.ref (st.length + 1 + q)), y3, y4, y5, y6, y7, y8, y9] ∧ st' = st ++ acc.map ptD :: g ∧ g[q]? = some (lf.map ptD) ∧
      k = lf.length ∧ acc.length + lf.length ≤ 100 ∧ PtsOk lf ∧ (∀ p ∈ lf, Sz n p.1 ∧ Sz m' p.2) ∧ lsz n m' lf.length ≤ 8000000 ∧ ladOf pts = (match ladOf lf with | some (s, l) => some (acc ++ s, l) | none => none),
    ⟨_, [], pts, 0, [pts.map ptD], m, none, none, none, none, none, none, none, ?_, ?_, rfl, rfl, by simpa using h100, hok, hsz, hm, ?_⟩, ?_⟩
  · show [some d, some (D.ref st.length), some (D.ref (st ++ [[]]).length), none, none, none, none, none, none, none] = _
    rw [List.length_append]
    rfl
  · simp
  · cases ladOf pts <;> rfl
  rintro k _ _ ⟨acc, lf, q, g, m', y3, y4, y5, y6, y7, y8, y9, rfl, rfl, hg, rfl, hal, lok, lsz', lm, lad⟩
  have hq : (st ++ acc.map ptD :: g)[st.length + 1 + q]? = some (lf.map ptD) := by
    rw [List.getElem?_append_right (by omega), show st.length + 1 + q - st.length = q + 1 by omega]
    exact hg
  refine ok_ hq ?_
  cases lf with
  | nil =>
    refine ok_ (get_at _ _ _) ⟨by show 2 ≤ 10000; omega, ?_⟩
    have lad : ladOf pts = some (acc, 0) := by
      rw [lad, ladOf]
      show some (acc ++ [], (0 : Rat)) = _
      rw [List.append_nil]
    rw [lad] at h
    exact ret_drop (d := ladD acc 0) hcl clD_lad h
  | cons p r =>
    refine iteY (decide_eq_true (by simp)) ?_
    have hp := lok.lv p List.mem_cons_self
    have hpp := lok.pl p List.mem_cons_self
    have hlen : r.length < 100 := by simp at hal; omega
    obtain ⟨sp1, sp2⟩ := lsz' p List.mem_cons_self
    have hm' : m' ≤ 8000000 := Nat.le_trans (lsz_ge n _ m') lm
    refine ok_ hq (ok_ (atI_nat (j := 0) rfl) ⟨rfl, by show 2 ≤ 10000; omega, by show 2 ≤ 10000; omega, ?_⟩)
    show (if inPy (pyR p.2) [pyR 1, pyR (-1)] = true then _ else _)
    rw [in_pm]
    by_cases hpm : p.2 = 1 ∨ p.2 = -1
    · refine iteY (decide_eq_true hpm) ?_
      refine ok_ hq (lc_yes ((p :: r).map fun q => D.bl (decide (q.2 = p.2))) (by simp) (by simp; omega) (fun acc => get_in hq) (fun i x y hx hy => ?_) ?_)
      · obtain ⟨a, ha, rfl⟩ := map_get hx
        obtain ⟨b, hb, rfl⟩ := map_get hy
        rw [ha] at hb; cases hb
        refine ⟨_, rfl, fun acc P' q => ?_⟩
        show P' (.bl (PyData.eqv (pyR a.2) (pyR p.2))) _
        rw [eqv_fr]; exact q
      · refine ok_ (get_at1 _ _) (ok_ (allBl_map _ _) ?_)
        refine ⟨_, rfl, rfl, ?_⟩
        have lad' : ladOf (p :: r) = if (p :: r).all (fun q => decide (q.2 = p.2)) then some ([], p.2) else none := by
          rw [ladOf, if_pos (show isPM p.2 from hpm)]
          congr 1
          simp
        refine bool_ (fun ha => ?_) (fun ha => ?_)
        · refine ok_ (get_at _ _ _) ⟨by show 2 ≤ 10000; omega, ?_⟩
          rw [lad', if_pos ha] at lad
          rw [lad] at h
          have h : P (ladD (acc ++ []) p.2) st := h
          rw [List.append_nil] at h
          exact ret_drop (d := ladD acc p.2) hcl clD_lad h
        · rw [lad', if_neg (by simp [ha])] at lad
          rw [lad] at h
          exact ret_drop (d := .non) hcl rfl h
    · refine iteN (by simpa using hpm) ?_
      refine ⟨by show 2 ≤ 10000; omega, ok_ (get_at _ _ _) ⟨by simp; simp at hal; omega, ?_⟩⟩
      rw [set_at]
      refine ⟨by show 0 ≤ 10000; omega, ?_⟩
      have hq2 : (st ++ (acc.map ptD ++ [ptD p]) :: g ++ [[]])[st.length + 1 + q]? = some ((p :: r).map ptD) := by
        rw [List.append_assoc, List.getElem?_append_right (by omega), show st.length + 1 + q - st.length = q + 1 by omega]
        exact get_in hg
      refine ok_ hq2 (ok_ (get_at1 _ _) ?_)
      rw [show (p :: r).map ptD = ptD p :: r.map ptD from rfl, cut_tail]
      have hpl : Pl p.2 := lv_pl hp hpm
      generalize hB : st ++ (acc.map ptD ++ [ptD p]) :: g = B
      refine ⟨fun i env s => ∃ y6 y7 y8 y9, env = [some d, some (.ref st.length), some (.ref (st.length + 1 + q)), some (fr p.1), some (fr p.2), some (.ref B.length), y6, y7, y8, y9] ∧ s = B ++ ((nxt p.1 p.2 r).take i).map ptD :: [r.map ptD] ∧ ∀ q ∈ (nxt p.1 p.2 r).take i, Lv q.2,
        ⟨y6, y7, y8, y9, by rw [← hB]; rfl, by rw [← hB]; simp; rfl, by simp⟩, ?_, ?_, ?_⟩
      · rintro i _ _ ⟨y6, y7, y8, y9, rfl, rfl, _⟩
        show (B ++ ((nxt p.1 p.2 r).take i).map ptD :: [r.map ptD])[(st ++ (acc.map ptD ++ [ptD p]) :: g ++ [[]]).length]? = some (r.map ptD)
        rw [hB]
        rw [show B ++ ((nxt p.1 p.2 r).take i).map ptD :: [r.map ptD] = (B ++ [((nxt p.1 p.2 r).take i).map ptD]) ++ [r.map ptD] by simp]
        have e9 : (B ++ [([] : List D)]).length = (B ++ [((nxt p.1 p.2 r).take i).map ptD]).length := by simp
        rw [e9]
        exact get_at1 _ _
      · rintro i x _ _ hx ⟨y6, y7, y8, y9, rfl, rfl, hlv⟩
        obtain ⟨o, ho, rfl⟩ := map_get hx
        have hor := List.mem_of_getElem? ho
        have hom := List.mem_cons_of_mem p hor
        obtain ⟨so1, so2⟩ := lsz' o hom
        have n1 := sz_pos so1
        have lm2 : 2 * n + 2 * m' + 2 ≤ 8000000 := Nat.le_trans (lsz_ge n _ _) lm
        have h1 := one_sub_pos hpl (lok.lv o hom)
        have h2 := one_sub_pos hpp (lok.pl o hom).lv
        refine ⟨rfl, rfl, p.2, o.2, m', rfl, sp2, so2, by omega, by grind, rfl, p.1, o.1, n, rfl, sp1, so1, by omega, by grind, rfl, _, _, rfl, head_ne lok hor, (sp2.tn so2).bd (by omega), (sp1.tn so1).bd (by omega), ?_⟩
        refine ⟨rfl, _, rfl, ?_⟩
        have hnx : (nxt p.1 p.2 r)[i]? = some (o.1, tn p.2 o.2 / tn p.1 o.1) := by
          unfold nxt; rw [List.getElem?_map, ho]; rfl
        refine bool_ (fun hlv2 => ?_) (fun hlv2 => ?_)
        · have hno : ¬ Lv (tn p.2 o.2 / tn p.1 o.1) := by simpa using hlv2
          rw [ladOf, if_neg (show ¬ isPM p.2 from hpm), if_neg (fun hall => hno (hall _ (List.mem_of_getElem? hnx)))] at lad
          rw [lad] at h
          rw [← hB, List.append_assoc]
          exact ret_drop (d := .non) hcl rfl h
        · have hyes : Lv (tn p.2 o.2 / tn p.1 o.1) := by simpa using hlv2
          refine ⟨by show 2 ≤ 10000; omega, ok_ (get_at _ _ _) ⟨by
            have := nxt_len p.1 p.2 r
            simp; omega, ?_⟩⟩
          rw [set_at]
          refine ⟨some (fr o.1), some (fr o.2), _, y9, rfl, ?_, ?_⟩
          · rw [take_get hnx, List.map_append]; rfl
          · rw [take_get hnx]
            intro q hq
            rcases List.mem_append.mp hq with hq | hq
            · exact hlv q hq
            · rw [List.mem_singleton] at hq; rw [hq]; exact hyes
      · rintro _ _ ⟨y6, y7, y8, y9, rfl, rfl, hlv⟩
        rw [List.length_map, List.take_of_length_le (by rw [nxt_len]; exact Nat.le_refl _)] at hlv ⊢
        have e : B.length = st.length + 1 + (B.length - st.length - 1) := by rw [← hB]; simp; omega
        have hBg : B.length - st.length - 1 = g.length := by rw [← hB]; simp
        have hcl2 := nxt_sz sp1 sp2 (fun q hq => lsz' q (List.mem_cons_of_mem _ hq))
        refine ⟨(nxt p.1 p.2 r).length, by rw [nxt_len]; simp, acc ++ [p], nxt p.1 p.2 r, B.length - st.length - 1, g ++ ((nxt p.1 p.2 r).map ptD :: [r.map ptD]), 2 * n + 2 * m' + 2, some (fr p.1), some (fr p.2), some (.ref B.length), y6, y7, y8, y9, ?_, ?_, ?_, rfl, ?_, nxt_ok lok hlv, hcl2, ?_, ?_⟩
        · rw [← e]; rfl
        · rw [← hB]; simp
        · rw [hBg]; exact get_at _ _ _
        · rw [nxt_len]; simp at hal ⊢; omega
        · rw [nxt_len]; exact lm
        · rw [lad, ladOf, if_neg (show ¬ isPM p.2 from hpm), if_pos hlv]
          exact ladOf_cons acc _ p
end DL
namespace DL
open PySem PySem.Spec PyProof.Rows L2 C8
local macro_rules | `(tactic| walk_at "dl") => `(tactic| dsimp only [dVar, dC, dOp, dUn, dB, dChain, dAnd, dOr, dNot, dAndV, dOrV, dNotV, dIfE, dNil, dCons, dTup, dLst, dCall, dBlt, dSl, dNoPart, dPart, dgName, dgCons, dgNil, dgTup, dgSub, dSeq, dNext, dAsg, dPar, dAug, dExpr, dRet, dRetN, dIf, dWhile, dFor, iSeq, iRng1D, iRng2D, dLc, dAppend, dPop, dRev, dGc, rAddD, rSubD, rMulD, rFdivX, rModD, rNegD, rCmpD, rIxD, seqD, startD, bodyEnds, fr, rLenD, rAbsD, rListD, rTupleD, List.map_cons, List.map_nil, List.cons_append, List.nil_append, List.getElem?_cons_zero, List.getElem?_cons_succ])
theorem le2 : 2 ≤ 10000 := by omega
theorem clD_pts {n : Nat} {ps : List (Rat × Rat)} : clD n (ptsD ps) = true := by simp [ptsD, clD, clDs_pts]
theorem clD_one {n : Nat} : clD n c_ONE = true := rfl

theorem isNon_ladO (o : Option (List (Rat × Rat) × Rat)) : isNon (ladO o) = o.isNone := by
  cases o with
  | none => rfl
  | some p => rfl
def sp_can_be_told : DSp := fun ds st P => ∃ (d : D) (pts : List (Rat × Rat)) (n m : Nat), ds = [d] ∧ seqD st d = some (pts.map ptD) ∧ PZ n m pts ∧ P (.bl (tell pts)) st
def b_can_be_told : DS := (dRet (dOp (rIsD true) (dCall 1 sp_ladder_of (dCons (dVar 0) dNil)) (dC .non)))
theorem v_can_be_told : ∀ ds st P, ds.length = 1 → clSt st.length st = true → clDs st.length ds = true → sp_can_be_told ds st P → b_can_be_told (bodyEnds st.length P) (startD 1 ds) st := by
  rintro _ st P _ _ _ ⟨d, pts, n, m, rfl, hd, z, h⟩
  refine ⟨rfl, d, pts, n, m, rfl, hd, z.len, z.ok, z.sz, z.n1, z.big, ret0 ?_⟩
  show P (.bl (!isNon (ladO (ladOf pts)))) st
  rw [isNon_ladO]
  have : (!(ladOf pts).isNone) = tell pts := by unfold tell; cases ladOf pts <;> rfl
  rw [this]
  exact h

def sp_ends_at : DSp := fun ds st P => ∃ (d : D) (pts : List (Rat × Rat)) (n m : Nat) (x : Rat) (s : List (Rat × Rat)) (l : Rat), ds = [d, fr x] ∧ seqD st d = some (pts.map ptD) ∧ PZ n m pts ∧ lsz n m pts.length ≤ 1900000 ∧ Lv x ∧ Sz n x ∧ ladOf pts = some (s, l) ∧
  P (.tup [ladD s (endL s l x).1, ladD s (endL s l x).2]) st
def b_ends_at : DS := (dSeq (dAsg (dCall 1 sp_ladder_of (dCons (dVar 0) dNil)) (dgName 2))
  (dSeq (dIf (dB (dOp (rIsD false) (dVar 2) (dC .non))) dNever dNext)
  (dSeq (dIf (dB (dCall 1 sp_is_full (dCons (dVar 2) dNil))) (dRet (dTup (dCons (dVar 2) (dCons (dVar 2) dNil)))) dNext)
  (dSeq (dAsg (dLst (dCons (dTup (dCons (dOp rIxD (dVar 2) (dC (.int 0))) (dCons (dTup (dCons (dUn rNegD (dC (.int 1))) (dCons (dC (.int 1)) dNil))) dNil))) (dCons (dTup (dCons (dOp rIxD (dVar 2) (dC (.int 0))) (dCons (dC c_ONE) dNil))) dNil))) (dgName 3))
  (dSeq (dIf (dB (dCall 2 sp_less (dCons (dCall 2 sp_value_on (dCons (dOp rIxD (dVar 3) (dC (.int 1))) (dCons (dVar 1) dNil))) (dCons (dCall 2 sp_value_on (dCons (dOp rIxD (dVar 3) (dC (.int 0))) (dCons (dVar 1) dNil))) dNil)))) (dRet (dTup (dCons (dOp rIxD (dVar 3) (dC (.int 1))) (dCons (dOp rIxD (dVar 3) (dC (.int 0))) dNil)))) dNext)
  (dRet (dTup (dCons (dOp rIxD (dVar 3) (dC (.int 0))) (dCons (dOp rIxD (dVar 3) (dC (.int 1))) dNil)))))))))
theorem v_ends_at : ∀ ds st P, ds.length = 2 → clSt st.length st = true → clDs st.length ds = true → sp_ends_at ds st P → b_ends_at (bodyEnds st.length P) (startD 4 ds) st := by
  rintro _ st P _ hcl _ ⟨d, pts, n, m, x, s, l, rfl, hd, z, hm, hx, hxs, e, h⟩
  obtain ⟨k1, k2, k3, k4⟩ := ladOf_like _ m rfl z.ok z.sz e
  have kN : vsz n 1 (lszs n m s.length) ≤ 1900000 + 1 := by
    have h1 := vsz_lszs n s.length m
    have h2 := lsz_mono n m k3
    omega
  refine ⟨rfl, d, pts, n, m, rfl, hd, z.len, z.ok, z.sz, z.n1, z.big, ?_⟩
  rw [e]
  refine ⟨rfl, s, l, rfl, ?_⟩
  refine bool_ (fun hpm => ?_) (fun hpm => ?_)
  · have hpm : l = 1 ∨ l = -1 := of_decide_eq_true hpm
    have he : endL s l x = (l, l) := if_pos hpm
    rw [he] at h
    exact ⟨le2, ret0 h⟩
  · have hpm : ¬ (l = 1 ∨ l = -1) := of_decide_eq_false hpm
    have he : endL s l x = if val x s 1 < val x s (-1) then (1, -1) else (-1, 1) := if_neg hpm
    have hn : n ≤ 1900000 + 1 := by have := z.n1; omega
    have h1 : ∀ p ∈ s, Sz (1900000 + 1) p.1 ∧ Sz (1900000 + 1) p.2 := szs_all k4 kN hn
    have h2 : ∀ l', isPM l' → ∀ k, Sz (1900000 + 1) (val x (s.drop k) l') := fun l' hl' => szs_drop hxs k4 (sz_pm (.inr hl')) kN
    have b1 : Bd (val x s 1) := Sz.bd (h2 1 isPM_one 0) (by omega)
    have b2 : Bd (val x s (-1)) := Sz.bd (h2 (-1) isPM_neg 0) (by omega)
    refine ⟨le2, le2, le2, le2, ok_ (get_at1 _ _) (ok_ (atI_nat (j := 1) rfl) ?_)⟩
    refine ⟨rfl, s, 1, x, _, rfl, k1, by decide, hx, ?_, h1, hxs.mono hn, h2 1 isPM_one, ok_ (get_at1 _ _) (ok_ (atI_nat (j := 0) rfl) ⟨rfl, s, -1, x, _, rfl, k1, by decide, hx, ?_, h1, hxs.mono hn, h2 (-1) isPM_neg, rfl, _, _, rfl, b1, b2, ?_⟩)⟩
    · omega
    · omega
    refine bool_ (fun hlt => ?_) (fun hlt => ?_)
    · have hlt : val x s 1 < val x s (-1) := of_decide_eq_true hlt
      rw [if_pos hlt] at he
      rw [he] at h
      exact ok_ (get_at1 _ _) (ok_ (atI_nat (j := 1) rfl) (ok_ (get_at1 _ _) (ok_ (atI_nat (j := 0) rfl) ⟨le2, ret_drop hcl (by simp [clDs, clD, clD_lad, clD_pts, clD_one]) h⟩)))
    · have hlt : ¬ val x s 1 < val x s (-1) := of_decide_eq_false hlt
      rw [if_neg hlt] at he
      rw [he] at h
      exact ok_ (get_at1 _ _) (ok_ (atI_nat (j := 0) rfl) (ok_ (get_at1 _ _) (ok_ (atI_nat (j := 1) rfl) ⟨le2, ret_drop hcl (by simp [clDs, clD, clD_lad, clD_pts, clD_one]) h⟩)))

def sp_range_at : DSp := fun ds st P => ∃ (d : D) (pts : List (Rat × Rat)) (n m : Nat) (x : Rat), ds = [d, fr x] ∧ seqD st d = some (pts.map ptD) ∧ PZ n m pts ∧ lsz n m pts.length ≤ 1900000 ∧ Lv x ∧ Sz n x ∧ tell pts = true ∧
  P (.tup [fr (rng pts x).1, fr (rng pts x).2]) st
def b_range_at : DS := (dSeq (dAsg (dCall 2 sp_ends_at (dCons (dVar 0) (dCons (dVar 1) dNil))) (dgTup (dgCons (dgName 2) (dgCons (dgName 3) dgNil)) 2))
  (dRet (dTup (dCons (dCall 2 sp_value_on (dCons (dVar 2) (dCons (dVar 1) dNil))) (dCons (dCall 2 sp_value_on (dCons (dVar 3) (dCons (dVar 1) dNil))) dNil)))))
theorem v_range_at : ∀ ds st P, ds.length = 2 → clSt st.length st = true → clDs st.length ds = true → sp_range_at ds st P → b_range_at (bodyEnds st.length P) (startD 4 ds) st := by
  rintro _ st P _ hcl _ ⟨d, pts, n, m, x, rfl, hd, z, hm, hx, hxs, ht, h⟩
  obtain ⟨⟨s, l⟩, e⟩ := Option.isSome_iff_exists.mp ht
  obtain ⟨k1, k2, k3, k4⟩ := ladOf_like _ m rfl z.ok z.sz e
  have kN : vsz n 1 (lszs n m s.length) ≤ 1900000 + 1 := by
    have h1 := vsz_lszs n s.length m
    have h2 := lsz_mono n m k3
    omega
  have hn : n ≤ 1900000 + 1 := by have := z.n1; omega
  have h1 : ∀ p ∈ s, Sz (1900000 + 1) p.1 ∧ Sz (1900000 + 1) p.2 := szs_all k4 kN hn
  have h2 : ∀ l', isPM l' → ∀ k, Sz (1900000 + 1) (val x (s.drop k) l') := fun l' hl' => szs_drop hxs k4 (sz_pm (.inr hl')) kN
  have hr : rng pts x = (val x s (endL s l x).1, val x s (endL s l x).2) := by unfold rng; rw [e]
  rw [hr] at h
  obtain ⟨e1, e2⟩ := endL_pm s l x
  refine ⟨rfl, d, pts, n, m, x, s, l, rfl, hd, z, hm, hx, hxs, e, rfl, ?_⟩
  refine ⟨rfl, s, _, x, _, rfl, k1, lv_pm (.inr e1), hx, ?_, h1, hxs.mono hn, h2 _ e1, rfl, s, _, x, _, rfl, k1, lv_pm (.inr e2), hx, ?_, h1, hxs.mono hn, h2 _ e2, le2, ret0 h⟩
  · omega
  · omega

def sp_with_point : DSp := fun ds st P => ∃ (pts : List (Rat × Rat)) (x v : Rat), ds = [ptsD pts, fr x, fr v] ∧ pts.length ≤ 100 ∧ (∀ p ∈ pts, Bd p.1) ∧ Bd x ∧ P (ptsD (wp pts x v)) st
def b_with_point : DS := (dSeq (dAsg (dLc [4] (iSeq (dVar 0)) (dB (dCall 2 sp_less (dCons (dOp rIxD (dVar 4) (dC (.int 0))) (dCons (dVar 1) dNil)))) (dVar 4)) (dgName 3))
  (dRet (dOp rAddD (dOp rAddD (dBlt rTupleD (dCons (dVar 3) dNil)) (dTup (dCons (dTup (dCons (dVar 1) (dCons (dVar 2) dNil))) dNil))) (dGc (dBlt rTupleD (dCons (dLc [4] (iSeq (dVar 0)) (dB (dCall 2 sp_less (dCons (dVar 1) (dCons (dOp rIxD (dVar 4) (dC (.int 0))) dNil)))) (dVar 4)) dNil))))))
theorem filt_take {f : Rat × Rat → Bool} {pts : List (Rat × Rat)} {i : Nat} {p : Rat × Rat} (h : pts[i]? = some p) : ((pts.take (i + 1)).filter f) = (pts.take i).filter f ++ (if f p then [p] else []) := by
  rw [take_get h, List.filter_append]
  cases e : f p <;> simp [e]
theorem v_with_point : ∀ ds st P, ds.length = 3 → clSt st.length st = true → clDs st.length ds = true → sp_with_point ds st P → b_with_point (bodyEnds st.length P) (startD 5 ds) st := by
  rintro _ st P _ hcl _ ⟨pts, x, v, rfl, hl, hb, hx, h⟩
  generalize hd : ptsD pts = d
  have hs : ∀ st, seqD st d = some (pts.map ptD) := fun _ => by rw [← hd]; rfl
  have hk : ∀ st, keepD d (pts.map ptD) st := fun _ => by rw [← hd]; trivial
  have part : ∀ (f : Rat × Rat → Bool) (i : Nat), (((pts.take i).filter f).map ptD).length < 10000 := fun f i => by
    rw [List.length_map]
    have h1 := List.length_filter_le f (pts.take i)
    have h2 := List.length_take_le' i pts
    omega
  refine ok_ (hs _) (lc_if (fun i => ((pts.take i).filter fun p => decide (p.1 < x)).map ptD) rfl (fun i _ => part _ i) (fun _ => hk _) (fun i y hy => ?_) ?_)
  · obtain ⟨p, hp, rfl⟩ := map_get hy
    refine ⟨_, decide (p.1 < x), rfl, fun a P' q => ?_, fun e => ⟨_, ?_, fun a P' q => q⟩, fun e => ?_⟩
    · exact ⟨rfl, p.1, x, rfl, hb p (List.mem_of_getElem? hp), hx, q⟩
    · rw [filt_take hp]
      simp only [e, if_true, List.map_append]
      rfl
    · rw [filt_take hp]
      simp [e]
  · refine ok_ (get_at1 _ _) ⟨le2, by show 1 ≤ 10000; omega, ?_, ?_⟩
    · show (List.map ptD _).length + 1 ≤ 10000
      have := part (fun p => decide (p.1 < x)) (pts.map ptD).length
      omega
    refine ok_ (hs _) ?_
    refine lc_if (fun i => ((pts.take i).filter fun p => decide (x < p.1)).map ptD) rfl (fun i _ => part _ i) (fun _ => hk _) (fun i y hy => ?_) ?_
    · obtain ⟨p, hp, rfl⟩ := map_get hy
      refine ⟨_, decide (x < p.1), rfl, fun a P' q => ?_, fun e => ⟨_, ?_, fun a P' q => q⟩, fun e => ?_⟩
      · exact ⟨rfl, x, p.1, rfl, hx, hb p (List.mem_of_getElem? hp), q⟩
      · rw [filt_take hp]
        simp only [e, if_true, List.map_append]
        rfl
      · rw [filt_take hp]
        simp [e]
    · refine ok_ (get_at1 _ _) ⟨_, rfl, clDs_pts, ?_, ?_⟩
      · show (List.map ptD _ ++ [_]).length + (List.map ptD _).length ≤ 10000
        have h1 := part (fun p => decide (p.1 < x)) (pts.map ptD).length
        have h2 := part (fun p => decide (x < p.1)) (pts.map ptD).length
        rw [List.length_append]
        simp only [List.length_map, List.length_cons, List.length_nil] at h1 h2 ⊢
        have h3 := List.length_filter_le (fun p : Rat × Rat => decide (p.1 < x)) (pts.take pts.length)
        have h4 := List.length_filter_le (fun p : Rat × Rat => decide (x < p.1)) (pts.take pts.length)
        have h5 := List.length_take_le' pts.length pts
        omega
      · have e : (D.tup (((pts.take (pts.map ptD).length).filter fun p => decide (p.1 < x)).map ptD ++ [.tup [fr x, fr v]] ++ ((pts.take (pts.map ptD).length).filter fun p => decide (x < p.1)).map ptD)) = ptsD (wp pts x v) := by
          rw [List.length_map, List.take_length]
          unfold wp ptsD
          rw [List.map_append, List.map_append]
          rfl
        rw [e]
        exact ret_drop hcl clD_pts h
end DL

namespace DL
open PySem PySem.Spec PyProof.Rows L2 C8
/-! ways through a body -/
theorem seq_cut {A B : DS} {DD : DEnds} {env : Env} {st : Store} (Q : Env → Store → Prop) (h1 : ∀ nx : Env → Store → Prop, (∀ e s, Q e s → nx e s) → A { nx := nx, rt := DD.rt, bk := DD.bk, ct := DD.ct } env st) (h2 : ∀ e s, Q e s → B DD e s) : dSeq A B DD env st := h1 _ h2
theorem le1 : 1 ≤ 10000 := by omega
theorem le3 : 3 ≤ 10000 := by omega
theorem le5 : 5 ≤ 10000 := by omega
theorem le0 : 0 ≤ 10000 := by omega
/-! the law's numbers -/

def sp_Lgcd : DSp := fun ds st P => ∃ a b : Int, ds = [.int a, .int b] ∧ P (.int (Int.gcd a b)) st
def b_Lgcd : DS := (dSeq (dPar 0 1 (dCons (dBlt rAbsD (dCons (dVar 0) dNil)) (dCons (dBlt rAbsD (dCons (dVar 1) dNil)) dNil)))
  (dSeq (dWhile (dB (dOp rGtD (dVar 1) (dC (.int 0)))) (dPar 0 1 (dCons (dVar 1) (dCons (dOp rModD (dBlt rIntD (dCons (dVar 0) dNil)) (dVar 1)) dNil))))
  (dRet (dVar 0))))
theorem v_Lgcd : ∀ ds st P, ds.length = 2 → clSt st.length st = true → clDs st.length ds = true → sp_Lgcd ds st P → b_Lgcd (bodyEnds st.length P) (startD 2 ds) st := by
  rintro _ st P _ _ _ ⟨a, b, rfl, h⟩
  refine ⟨fun m env st' => ∃ x : Nat, env = [some (.int x), some (.int m)] ∧ st' = st ∧ Nat.gcd x m = Int.gcd a b, ⟨b.natAbs, a.natAbs, ?_, rfl, rfl⟩, ?_⟩
  · show [some (D.int (if a < 0 then -a else a)), some (D.int (if b < 0 then -b else b))] = _
    rw [abs_if, abs_if]
  · rintro y _ _ ⟨x, rfl, rfl, hg⟩
    refine bool_ (fun hy => ?_) (fun hy => ?_)
    · have hy : (0 : Int) < y := of_decide_eq_true hy
      refine ⟨by omega, x % y, ?_, y, ?_, rfl, ?_⟩
      · exact Nat.mod_lt _ (by omega)
      · show [some (D.int y), some (D.int ((x : Int).fmod y))] = _
        rw [Int.fmod_eq_emod_of_nonneg _ (by omega)]
        rfl
      · rw [← hg, Nat.gcd_comm x y, Nat.gcd_comm y (x % y), ← Nat.gcd_rec]
    · have hy : ¬ (0 : Int) < y := of_decide_eq_false hy
      have : y = 0 := by omega
      subst this
      rw [Nat.gcd_zero_right] at hg
      refine ret0 ?_
      show P (.int x) _
      rw [hg]
      exact h

def sp_Lf : DSp := fun ds st P => ∃ a d : Int, ds = [.int a, .int d] ∧ d ≠ 0 ∧ P (fr (Rat.divInt a d)) st
def b_Lf : DS := (dSeq (dIf (dB (dOp rLtD (dVar 1) (dC (.int 0)))) (dPar 0 1 (dCons (dOp rSubD (dC (.int 0)) (dVar 0)) (dCons (dOp rSubD (dC (.int 0)) (dVar 1)) dNil))) dNext)
  (dSeq (dAsg (dBlt rMaxD (dCons (dC (.int 1)) (dCons (dCall 2 sp_Lgcd (dCons (dVar 0) (dCons (dVar 1) dNil))) dNil))) (dgName 2))
  (dRet (dTup (dCons (dOp rFdivX (dVar 0) (dVar 2)) (dCons (dOp rFdivX (dVar 1) (dVar 2)) dNil))))))
theorem max_one {n : Nat} (h : n ≠ 0) : (if (n : Int) > 1 then (n : Int) else 1) = n := by split <;> omega
theorem v_Lf : ∀ ds st P, ds.length = 2 → clSt st.length st = true → clDs st.length ds = true → sp_Lf ds st P → b_Lf (bodyEnds st.length P) (startD 3 ds) st := by
  rintro _ st P _ _ _ ⟨a, d, rfl, hd, h⟩
  refine seq_cut (fun e s => s = st ∧ ∃ a' d' : Int, e = [some (.int a'), some (.int d'), none] ∧ 0 < d' ∧ Rat.divInt a' d' = Rat.divInt a d) (fun nx hn => ?_) ?_
  · refine bool_ (fun e => ?_) (fun e => ?_)
    · have e : d < 0 := of_decide_eq_true e
      refine hn _ _ ⟨rfl, 0 - a, 0 - d, rfl, by omega, ?_⟩
      rw [show 0 - a = -a by omega, show 0 - d = -d by omega, Rat.neg_divInt_neg]
    · have e : ¬ d < 0 := of_decide_eq_false e
      exact hn _ _ ⟨rfl, a, d, rfl, by omega, rfl⟩
  · rintro _ _ ⟨rfl, a', d', rfl, hd', e⟩
    have hg : Int.gcd a' d' ≠ 0 := by
      have := Int.gcd_pos_of_ne_zero_right a' (show d' ≠ 0 by omega)
      omega
    refine ⟨rfl, a', d', rfl, ?_⟩
    have nz : (if ((Int.gcd a' d' : Nat) : Int) > 1 then ((Int.gcd a' d' : Nat) : Int) else 1) ≠ 0 := by rw [max_one hg]; omega
    refine ⟨nz, nz, le2, ret0 ?_⟩
    show P (.tup [.int (a'.fdiv (if ((Int.gcd a' d' : Nat) : Int) > 1 then ((Int.gcd a' d' : Nat) : Int) else 1)), .int (d'.fdiv (if ((Int.gcd a' d' : Nat) : Int) > 1 then ((Int.gcd a' d' : Nat) : Int) else 1))]) _
    rw [max_one hg]
    rw [(frac_pos hd').1, (frac_pos hd').2, e]
    exact h

def sp_Ladd : DSp := fun ds st P => ∃ x y : Rat, ds = [fr x, fr y] ∧ Bd x ∧ Bd y ∧ P (fr (x + y)) st
def b_Ladd : DS := (dRet (dCall 2 sp_Lf (dCons (dOp rAddD (dOp rMulD (dOp rIxD (dVar 0) (dC (.int 0))) (dOp rIxD (dVar 1) (dC (.int 1)))) (dOp rMulD (dOp rIxD (dVar 1) (dC (.int 0))) (dOp rIxD (dVar 0) (dC (.int 1))))) (dCons (dOp rMulD (dOp rIxD (dVar 0) (dC (.int 1))) (dOp rIxD (dVar 1) (dC (.int 1)))) dNil))))
theorem v_Ladd : ∀ ds st P, ds.length = 2 → clSt st.length st = true → clDs st.length ds = true → sp_Ladd ds st P → b_Ladd (bodyEnds st.length P) (startD 2 ds) st := by
  rintro _ st P _ _ _ ⟨x, y, rfl, hx, hy, h⟩
  refine ⟨hx.nd hy, hy.nd hx, hx.dd hy, rfl, _, _, rfl, den_mul_ne x y, ret0 ?_⟩
  rw [add_divInt]
  exact h

def sp_Lsub : DSp := fun ds st P => ∃ x y : Rat, ds = [fr x, fr y] ∧ Bd x ∧ Bd y ∧ P (fr (x - y)) st
def b_Lsub : DS := (dRet (dCall 2 sp_Lf (dCons (dOp rSubD (dOp rMulD (dOp rIxD (dVar 0) (dC (.int 0))) (dOp rIxD (dVar 1) (dC (.int 1)))) (dOp rMulD (dOp rIxD (dVar 1) (dC (.int 0))) (dOp rIxD (dVar 0) (dC (.int 1))))) (dCons (dOp rMulD (dOp rIxD (dVar 0) (dC (.int 1))) (dOp rIxD (dVar 1) (dC (.int 1)))) dNil))))
theorem v_Lsub : ∀ ds st P, ds.length = 2 → clSt st.length st = true → clDs st.length ds = true → sp_Lsub ds st P → b_Lsub (bodyEnds st.length P) (startD 2 ds) st := by
  rintro _ st P _ _ _ ⟨x, y, rfl, hx, hy, h⟩
  refine ⟨hx.nd hy, hy.nd hx, hx.dd hy, rfl, _, _, rfl, den_mul_ne x y, ret0 ?_⟩
  rw [sub_divInt]
  exact h

def sp_Lmul : DSp := fun ds st P => ∃ x y : Rat, ds = [fr x, fr y] ∧ Bd x ∧ Bd y ∧ P (fr (x * y)) st
def b_Lmul : DS := (dRet (dCall 2 sp_Lf (dCons (dOp rMulD (dOp rIxD (dVar 0) (dC (.int 0))) (dOp rIxD (dVar 1) (dC (.int 0)))) (dCons (dOp rMulD (dOp rIxD (dVar 0) (dC (.int 1))) (dOp rIxD (dVar 1) (dC (.int 1)))) dNil))))
theorem v_Lmul : ∀ ds st P, ds.length = 2 → clSt st.length st = true → clDs st.length ds = true → sp_Lmul ds st P → b_Lmul (bodyEnds st.length P) (startD 2 ds) st := by
  rintro _ st P _ _ _ ⟨x, y, rfl, hx, hy, h⟩
  refine ⟨hx.nn hy, hx.dd hy, rfl, _, _, rfl, den_mul_ne x y, ret0 ?_⟩
  rw [mul_divInt]
  exact h

def sp_Ldiv : DSp := fun ds st P => ∃ x y : Rat, ds = [fr x, fr y] ∧ y ≠ 0 ∧ Bd x ∧ Bd y ∧ P (fr (x / y)) st
def b_Ldiv : DS := (dRet (dCall 2 sp_Lf (dCons (dOp rMulD (dOp rIxD (dVar 0) (dC (.int 0))) (dOp rIxD (dVar 1) (dC (.int 1)))) (dCons (dOp rMulD (dOp rIxD (dVar 0) (dC (.int 1))) (dOp rIxD (dVar 1) (dC (.int 0)))) dNil))))
theorem v_Ldiv : ∀ ds st P, ds.length = 2 → clSt st.length st = true → clDs st.length ds = true → sp_Ldiv ds st P → b_Ldiv (bodyEnds st.length P) (startD 2 ds) st := by
  rintro _ st P _ _ _ ⟨x, y, rfl, h0, hx, hy, h⟩
  have hn : y.num ≠ 0 := fun e => h0 (Rat.num_eq_zero.mp e)
  refine ⟨hx.nd hy, hx.dn hy, rfl, _, _, rfl, Int.mul_ne_zero (den_ne x) hn, ret0 ?_⟩
  rw [div_divInt]
  exact h

def sp_Lless : DSp := fun ds st P => ∃ x y : Rat, ds = [fr x, fr y] ∧ Bd x ∧ Bd y ∧ P (.bl (decide (x < y))) st
def b_Lless : DS := (dRet (dOp rLtD (dOp rMulD (dOp rIxD (dVar 0) (dC (.int 0))) (dOp rIxD (dVar 1) (dC (.int 1)))) (dOp rMulD (dOp rIxD (dVar 1) (dC (.int 0))) (dOp rIxD (dVar 0) (dC (.int 1))))))
theorem v_Lless : ∀ ds st P, ds.length = 2 → clSt st.length st = true → clDs st.length ds = true → sp_Lless ds st P → b_Lless (bodyEnds st.length P) (startD 2 ds) st := by
  rintro _ st P _ _ _ ⟨x, y, rfl, hx, hy, h⟩
  refine ⟨hx.nd hy, hy.nd hx, ret0 ?_⟩
  show P (.bl (decide (x.num * y.den < y.num * x.den))) st
  rw [less_dec]
  exact h

def sp_Lswing : DSp := fun ds st P => ∃ (a x : Rat) (n : Nat), ds = [fr a, fr x] ∧ Sz n a ∧ Sz n x ∧ n ≤ 8000000 ∧ 1 - a * x ≠ 0 ∧ P (fr (tn a x)) st
def b_Lswing : DS := (dRet (dCall 2 sp_Ldiv (dCons (dCall 2 sp_Lsub (dCons (dVar 1) (dCons (dVar 0) dNil))) (dCons (dCall 2 sp_Lsub (dCons (dTup (dCons (dC (.int 1)) (dCons (dC (.int 1)) dNil))) (dCons (dCall 2 sp_Lmul (dCons (dVar 0) (dCons (dVar 1) dNil))) dNil))) dNil))))
theorem v_Lswing : ∀ ds st P, ds.length = 2 → clSt st.length st = true → clDs st.length ds = true → sp_Lswing ds st P → b_Lswing (bodyEnds st.length P) (startD 2 ds) st := by
  rintro _ st P _ _ _ ⟨a, x, n, rfl, ha, hx, hn, h0, h⟩
  have h1 := sz_pos ha
  exact ⟨rfl, x, a, rfl, hx.bd (by omega), ha.bd (by omega), le2, rfl, a, x, rfl, ha.bd (by omega), hx.bd (by omega), rfl, 1, _, rfl, sz_one.bd (by omega), (ha.mul hx).bd (by omega), rfl, _, _, rfl, h0, (hx.sub ha).bd (by omega), (sz_one.sub (ha.mul hx)).bd (by omega), ret0 h⟩

def sp_Llift : DSp := fun ds st P => ∃ (a x : Rat) (n : Nat), ds = [fr a, fr x] ∧ Sz n a ∧ Sz n x ∧ n ≤ 8000000 ∧ 1 + a * x ≠ 0 ∧ P (fr (lf a x)) st
def b_Llift : DS := (dRet (dCall 2 sp_Ldiv (dCons (dCall 2 sp_Ladd (dCons (dVar 0) (dCons (dVar 1) dNil))) (dCons (dCall 2 sp_Ladd (dCons (dTup (dCons (dC (.int 1)) (dCons (dC (.int 1)) dNil))) (dCons (dCall 2 sp_Lmul (dCons (dVar 0) (dCons (dVar 1) dNil))) dNil))) dNil))))
theorem v_Llift : ∀ ds st P, ds.length = 2 → clSt st.length st = true → clDs st.length ds = true → sp_Llift ds st P → b_Llift (bodyEnds st.length P) (startD 2 ds) st := by
  rintro _ st P _ _ _ ⟨a, x, n, rfl, ha, hx, hn, h0, h⟩
  have h1 := sz_pos ha
  exact ⟨rfl, a, x, rfl, ha.bd (by omega), hx.bd (by omega), le2, rfl, a, x, rfl, ha.bd (by omega), hx.bd (by omega), rfl, 1, _, rfl, sz_one.bd (by omega), (ha.mul hx).bd (by omega), rfl, _, _, rfl, h0, (ha.add hx).bd (by omega), (sz_one.add (ha.mul hx)).bd (by omega), ret0 h⟩

def sp_Lon : DSp := fun ds st P => ∃ (s : List (Rat × Rat)) (l x : Rat) (n : Nat), ds = [ladD s l, fr x] ∧ stepsOk s ∧ Lv l ∧ Lv x ∧ n ≤ 2000000 ∧ (∀ p ∈ s, Sz n p.1 ∧ Sz n p.2) ∧ Sz n x ∧ (∀ k, Sz n (val x (s.drop k) l)) ∧ P (fr (val x s l)) st
def b_Lon : DS := (dSeq (dAsg (dOp rIxD (dVar 0) (dC (.int 1))) (dgName 2))
  (dSeq (dFor (iSeq (dRev (dOp rIxD (dVar 0) (dC (.int 0))))) (dgTup (dgCons (dgName 3) (dgCons (dgName 4) dgNil)) 2) (dAsg (dCall 2 sp_Llift (dCons (dVar 4) (dCons (dCall 2 sp_Lmul (dCons (dCall 2 sp_Lswing (dCons (dVar 3) (dCons (dVar 1) dNil))) (dCons (dVar 2) dNil))) dNil))) (dgName 2)))
  (dRet (dVar 2))))
theorem v_Lon : ∀ ds st P, ds.length = 2 → clSt st.length st = true → clDs st.length ds = true → sp_Lon ds st P → b_Lon (bodyEnds st.length P) (startD 5 ds) st := by
  rintro _ st P _ _ _ ⟨s, l, x, n, rfl, hs, hl, hx, hn, hsz, hxs, hv, h⟩
  refine ⟨fun i e st' => st' = st ∧ ∃ y3 y4, e = [some (ladD s l), some (fr x), some (fr (val x (s.drop (s.length - i)) l)), y3, y4], ⟨rfl, none, none, ?_⟩, fun _ _ _ _ => trivial, ?_, ?_⟩
  · rw [Nat.sub_zero, List.drop_length]; rfl
  · rintro i y _ _ hy ⟨rfl, y3, y4, rfl⟩
    have hy : ((s.map ptD).reverse)[i]? = some y := hy
    rw [← List.map_reverse] at hy
    obtain ⟨p, hp, rfl⟩ := map_get hy
    obtain ⟨hm, hd⟩ := drop_rev hp
    have n1 := sz_pos hxs
    have hv1 := val_lv hx (s := s.drop (s.length - i)) (fun q hq => hs q (List.mem_of_mem_drop hq)) hl
    have ht := lv_mul (tn_lv (hs p hm).1 hx) hv1
    have t1 := (hsz p hm).1.tn hxs
    refine ⟨rfl, rfl, p.1, x, n, rfl, (hsz p hm).1, hxs, by omega, ?_, rfl, _, _, rfl, t1.bd (by omega), (hv _).bd (by omega), rfl, p.2, _, 3 * n + 1, rfl, (hsz p hm).2.mono (by omega), (t1.mul (hv _)).mono (by omega), by omega, ?_, rfl, some (fr p.1), some (fr p.2), ?_⟩
    · have := one_sub_pos (hs p hm).1 hx; grind
    · have := one_add_pos (hs p hm).2 ht; grind
    · rw [hd]; rfl
  · rintro _ _ ⟨rfl, y3, y4, rfl⟩
    refine ret0 ?_
    show P (fr (val x (s.drop (s.length - ((s.map ptD).reverse).length)) l)) _
    rw [List.length_reverse, List.length_map, Nat.sub_self]
    exact h
end DL

namespace DL
open PySem PySem.Spec PyProof.Rows L2 C8
/-! the law's pool of numbers -/
def prow (q : Nat) (i cur cnt salt : Int) : List D := [.ref q, .int i, .int cur, .int cnt, .int salt]
/-- list p of the store is a pool over the script, list q; it drew at most k times -/
def Pool (st : Store) (p q k : Nat) : Prop := ∃ (xs : List Int) (i : Nat) (cur cnt salt : Int), st[p]? = some (prow q i cur cnt salt) ∧ st[q]? = some (xs.map D.int) ∧ q ≠ p ∧ i ≤ xs.length ∧ xs.length ≤ 63 ∧ 0 ≤ cnt ∧ cnt ≤ k ∧ 0 ≤ salt ∧ salt < 1000003
theorem Pool.lt {st : Store} {p q k : Nat} (h : Pool st p q k) : p < st.length := by
  obtain ⟨xs, i, cur, cnt, salt, h, _⟩ := h
  exact (List.getElem?_eq_some_iff.mp h).1
theorem Pool.qlt {st : Store} {p q k : Nat} (h : Pool st p q k) : q < st.length := by
  obtain ⟨xs, i, cur, cnt, salt, _, h, _⟩ := h
  exact (List.getElem?_eq_some_iff.mp h).1
theorem Pool.ne {st : Store} {p q k : Nat} (h : Pool st p q k) : q ≠ p := by
  obtain ⟨xs, i, cur, cnt, salt, _, _, h, _⟩ := h
  exact h
theorem Pool.app {st g : Store} {p q k : Nat} (h : Pool st p q k) : Pool (st ++ g) p q k := by
  obtain ⟨xs, i, cur, cnt, salt, h1, h2, h3⟩ := h
  exact ⟨xs, i, cur, cnt, salt, get_in h1, get_in h2, h3⟩
theorem Pool.cut {st g : Store} {p q k : Nat} (h : Pool (st ++ g) p q k) (hp : p < st.length) (hq : q < st.length) : Pool st p q k := by
  obtain ⟨xs, i, cur, cnt, salt, h1, h2, h3⟩ := h
  rw [List.getElem?_append_left hp] at h1
  rw [List.getElem?_append_left hq] at h2
  exact ⟨xs, i, cur, cnt, salt, h1, h2, h3⟩
theorem Pool.mono {st : Store} {p q k k' : Nat} (h : Pool st p q k) (hk : k ≤ k') : Pool st p q k' := by
  obtain ⟨xs, i, cur, cnt, salt, h1, h2, h3, h4, h5, h6, h7, h8⟩ := h
  exact ⟨xs, i, cur, cnt, salt, h1, h2, h3, h4, h5, h6, by omega, h8⟩
theorem set_app {st g : Store} {p : Nat} {r : List D} (h : p < st.length) : (st ++ g).set p r = st.set p r ++ g := List.set_append_left _ _ h
theorem get_other {st : Store} {p q : Nat} {r : List D} (h : q ≠ p) : (st.set p r)[q]? = st[q]? := List.getElem?_set_ne (Ne.symm h)
theorem get_self {st : Store} {p : Nat} {r : List D} (h : p < st.length) : (st.set p r)[p]? = some r := by rw [List.getElem?_set_self h]
theorem clDs_prow {n q : Nat} {i cur cnt salt : Int} (h : q < n) : clDs n (prow q i cur cnt salt) = true := by simp [prow, clDs, clD, h]
theorem clSt_set {n : Nat} : ∀ {st : Store} {p : Nat} {row : List D}, clSt n st = true → clDs n row = true → clSt n (st.set p row) = true
  | [], p, row, h, _ => by simpa using h
  | a :: r, 0, row, h, hr => by
    rw [List.set_cons_zero]
    simp only [clSt, List.all_cons, Bool.and_eq_true] at h ⊢
    exact ⟨hr, h.2⟩
  | a :: r, p + 1, row, h, hr => by
    rw [List.set_cons_succ]
    simp only [clSt, List.all_cons, Bool.and_eq_true] at h ⊢
    exact ⟨h.1, clSt_set (n := n) (st := r) h.2 hr⟩
theorem Pool.cl {st : Store} {p q k n : Nat} {row : List D} (h : Pool (st.set p row) p q k) (hn : q < n) : clDs n row = true := by
  have hlt := h.lt
  rw [List.length_set] at hlt
  obtain ⟨xs, i, cur, cnt, salt, h, _⟩ := h
  rw [get_self hlt] at h
  cases h
  exact clDs_prow hn
theorem Pool.set2 {st : Store} {p q k : Nat} {r1 r2 : List D} (h : Pool ((st.set p r1).set p r2) p q k) : Pool (st.set p r2) p q k := by rwa [List.set_set] at h

def sp_Lspread : DSp := fun ds st P => ∃ c : Int, ds = [.int c] ∧ ∀ v : Int, P (.int v) st
def b_Lspread : DS := (dSeq (dAsg (dOp rModD (dBlt rIntD (dCons (dVar 0) dNil)) (dC (.int 2147483647))) (dgName 1))
  (dSeq (dAsg (dC (.int 1)) (dgName 2))
  (dSeq (dFor (iRng1D (dCons (dC (.int 4)) dNil)) (dgName 3) (dSeq (dAsg (dOp rModD (dBlt rIntD (dCons (dOp rAddD (dOp rAddD (dOp rMulD (dVar 1) (dC (.int 48271))) (dC (.int 12345))) (dVar 3)) dNil)) (dC (.int 2147483647))) (dgName 1))
  (dAsg (dOp rAddD (dOp rMulD (dVar 2) (dC (.int 2147483647))) (dVar 1)) (dgName 2))))
  (dRet (dVar 2)))))
theorem mulB_small {i j : Int} {n m : Nat} (h1 : i.natAbs < 2 ^ n) (h2 : j.natAbs < 2 ^ m) (hn : 1 ≤ n) (hm : 1 ≤ m) (h : n + m ≤ 100000000) : MulB i j := by
  have a := log2_lt h1 hn
  have b := log2_lt h2 hm
  unfold MulB
  omega
theorem fmod_nn {a m : Int} (h : 0 < m) : 0 ≤ a.fmod m ∧ a.fmod m < m := ⟨Int.fmod_nonneg_of_pos _ h, Int.fmod_lt_of_pos _ h⟩
theorem pw5 {i : Nat} (h : i < 4) : (2147483648 : Int) ^ (i + 1) ≤ 45671926166590716193865151022383844364247891968 := by
  have : i = 0 ∨ i = 1 ∨ i = 2 ∨ i = 3 := by omega
  rcases this with rfl | rfl | rfl | rfl
  · rw [show (2147483648 : Int) ^ (0 + 1) = 2147483648 by rfl]; omega
  · rw [show (2147483648 : Int) ^ (1 + 1) = 4611686018427387904 by rfl]; omega
  · rw [show (2147483648 : Int) ^ (2 + 1) = 9903520314283042199192993792 by rfl]; omega
  · rw [show (2147483648 : Int) ^ (3 + 1) = 21267647932558653966460912964485513216 by rfl]; omega
theorem v_Lspread : ∀ ds st P, ds.length = 1 → clSt st.length st = true → clDs st.length ds = true → sp_Lspread ds st P → b_Lspread (bodyEnds st.length P) (startD 4 ds) st := by
  rintro _ st P _ _ _ ⟨c, rfl, h⟩
  have c0 := fmod_nn (a := c) (m := 2147483647) (by decide)
  refine ⟨by decide, by decide, fun i e s => s = st ∧ ∃ (b w : Int) (y : Option D), e = [some (.int c), some (.int b), some (.int w), y] ∧ (0 ≤ b ∧ b < 2147483647) ∧ 0 ≤ w ∧ w < 2147483648 ^ (i + 1), ⟨rfl, _, 1, none, rfl, c0, by decide, by decide⟩, fun _ _ _ _ => trivial, ?_, ?_⟩
  · rintro i x _ _ hx ⟨rfl, b, w, y, rfl, hb, hw, hw2⟩
    obtain ⟨hi, rfl⟩ := intsFrom_get hx
    have hi : i < 4 := hi
    have hp := pw5 hi
    have c1 := fmod_nn (a := b * 48271 + 12345 + (0 + (i : Int))) (m := 2147483647) (by decide)
    refine ⟨mulB_small (n := 31) (m := 16) (by omega) (by omega) (by omega) (by omega) (by omega), by omega, mulB_small (n := 155) (m := 31) (by omega) (by omega) (by omega) (by omega) (by omega), rfl, _, _, some (.int (0 + (i : Int))), rfl, c1, by omega, ?_⟩
    rw [Int.pow_succ]
    omega
  · rintro _ _ ⟨rfl, b, w, y, rfl, hb, hw, hw2⟩
    exact ret0 (h _)

def sp_Lpool : DSp := fun ds st P => ∃ ns : List Int, ds = [.fz (ns.map .int)] ∧ ns.length ≤ 63 ∧ ∀ xs row, (∀ d ∈ xs, ∃ i, d = D.int i) → Pool (st ++ [xs, xs, row]) (st.length + 2) (st.length + 1) 0 → P (.ref (st.length + 2)) (st ++ [xs, xs, row])
def b_Lpool : DS := (dSeq (dAsg (dC (.int 7)) (dgName 1))
  (dSeq (dFor (iSeq (dSl rSlD (dVar 0) dNoPart (dPart (dC (.int 63))))) (dgName 2) (dAsg (dOp rModD (dBlt rIntD (dCons (dOp rAddD (dOp rMulD (dVar 1) (dC (.int 31))) (dVar 2)) dNil)) (dC (.int 1000003))) (dgName 1)))
  (dRet (dLst (dCons (dBlt rListD (dCons (dVar 0) dNil)) (dCons (dC (.int 0)) (dCons (dC (.int 0)) (dCons (dC (.int 0)) (dCons (dVar 1) dNil)))))))))
theorem v_Lpool : ∀ ds st P, ds.length = 1 → clSt st.length st = true → clDs st.length ds = true → sp_Lpool ds st P → b_Lpool (bodyEnds st.length P) (startD 3 ds) st := by
  rintro _ st P _ _ _ ⟨ns, rfl, hl, h⟩
  have hc : cutD (ns.map D.int) none (some 63) = ns.map D.int := by
    unfold cutD
    rw [HT.sIx_none, show HT.sIx (ns.map D.int).length (ns.map D.int).length (some 63) = min 63 (ns.map D.int).length from HT.sIx_nat _ _ 63]
    simp only [List.drop_zero, List.length_map]
    rw [List.take_of_length_le (by rw [List.length_map]; omega)]
  refine ok_ (o := (st ++ [cutD (ns.map D.int) none (some 63)])[st.length]?) (get_at1 _ _) ?_
  rw [hc]
  refine ⟨fun i e s => s = st ++ [ns.map D.int] ∧ ∃ (b : Int) (y : Option D), e = [some (.fz (ns.map D.int)), some (.int b), y] ∧ 0 ≤ b ∧ b < 1000003, ⟨rfl, 7, none, rfl, by omega, by omega⟩, ?_, ?_, ?_⟩
  · rintro i _ _ ⟨rfl, _⟩
    exact get_at1 _ _
  · rintro i x _ _ hx ⟨rfl, b, y, rfl, hb⟩
    obtain ⟨c, hc, rfl⟩ := map_get hx
    have c1 := fmod_nn (a := b * 31 + c) (m := 1000003) (by decide)
    exact ⟨mulB_small (n := 20) (m := 5) (by omega) (by omega) (by omega) (by omega) (by omega), by omega, rfl, _, some (.int c), rfl, c1⟩
  · rintro _ _ ⟨rfl, b, y, rfl, hb⟩
    refine ⟨le5, ret0 ?_⟩
    have e1 : (st ++ [ns.map D.int]).length = st.length + 1 := by simp
    have e2 : (st ++ [ns.map D.int] ++ [ns.map D.int]).length = st.length + 2 := by simp
    show P (.ref (st ++ [ns.map D.int] ++ [ns.map D.int]).length) (st ++ [ns.map D.int] ++ [ns.map D.int] ++ [prow (st ++ [ns.map D.int]).length 0 0 0 b])
    have e3 : st ++ [ns.map D.int] ++ [ns.map D.int] ++ [prow (st ++ [ns.map D.int]).length 0 0 0 b] = st ++ [ns.map D.int, ns.map D.int, prow (st.length + 1) 0 0 0 b] := by simp
    rw [e2, e3]
    refine h _ _ (fun d hd => ?_) ⟨ns, 0, 0, 0, b, ?_, ?_, by omega, by omega, hl, by omega, by omega, hb⟩
    · obtain ⟨i, _, rfl⟩ := List.mem_map.mp hd; exact ⟨i, rfl⟩
    · rw [List.getElem?_append_right (by omega), Nat.add_sub_cancel_left]; rfl
    · rw [List.getElem?_append_right (by omega), Nat.add_sub_cancel_left]; rfl

def sp_Ldraw : DSp := fun ds st P => ∃ (p q k : Nat) (m : Int), ds = [.ref p, .int m] ∧ 0 < m ∧ k ≤ 1000000 ∧ Pool st p q k ∧ ∀ v row, 0 ≤ v → v < m → Pool (st.set p row) p q (k + 1) → P (.int v) (st.set p row)
def b_Ldraw : DS := (dSeq (dIf (dAnd (dB (dOp rLeD (dOp rIxD (dVar 0) (dC (.int 2))) (dC (.int 0)))) (dB (dOp rLtD (dOp rIxD (dVar 0) (dC (.int 1))) (dBlt rLenD (dCons (dOp rIxD (dVar 0) (dC (.int 0))) dNil))))) (dSeq (dAsg (dOp rIxD (dOp rIxD (dVar 0) (dC (.int 0))) (dOp rIxD (dVar 0) (dC (.int 1)))) (dgName 2))
  (dSeq (dAsg (dOp rAddD (dOp rIxD (dVar 0) (dC (.int 1))) (dC (.int 1))) (dgSub (dVar 0) (dC (.int 1))))
  (dSeq (dAsg (dVar 2) (dgSub (dVar 0) (dC (.int 2))))
  (dIf (dB (dOp rLtD (dVar 2) (dC (.int 1000000000000000000)))) (dAsg (dCall 1 sp_Lspread (dCons (dVar 2) dNil)) (dgSub (dVar 0) (dC (.int 2)))) dNext)))) dNext)
  (dSeq (dAsg (dOp rAddD (dOp rIxD (dVar 0) (dC (.int 3))) (dC (.int 1))) (dgSub (dVar 0) (dC (.int 3))))
  (dSeq (dIf (dB (dOp rLeD (dOp rIxD (dVar 0) (dC (.int 2))) (dC (.int 0)))) (dSeq (dAsg (dOp rModD (dBlt rIntD (dCons (dOp rAddD (dOp rAddD (dOp rMulD (dOp rIxD (dVar 0) (dC (.int 4))) (dC (.int 48271))) (dOp rMulD (dOp rIxD (dVar 0) (dC (.int 3))) (dC (.int 69621)))) (dC (.int 1))) dNil)) (dC (.int 2147483647))) (dgName 3))
  (dSeq (dAsg (dOp rModD (dBlt rIntD (dCons (dOp rAddD (dOp rMulD (dVar 3) (dC (.int 16807))) (dOp rIxD (dVar 0) (dC (.int 3)))) dNil)) (dC (.int 2147483629))) (dgName 3))
  (dRet (dOp rModD (dOp rFdivX (dVar 3) (dC (.int 5))) (dVar 1))))) dNext)
  (dSeq (dAsg (dOp rModD (dBlt rIntD (dCons (dOp rIxD (dVar 0) (dC (.int 2))) dNil)) (dVar 1)) (dgName 4))
  (dSeq (dAsg (dOp rFdivX (dOp rIxD (dVar 0) (dC (.int 2))) (dVar 1)) (dgSub (dVar 0) (dC (.int 2))))
  (dRet (dVar 4)))))))
theorem v_Ldraw : ∀ ds st P, ds.length = 2 → clSt st.length st = true → clDs st.length ds = true → sp_Ldraw ds st P → b_Ldraw (bodyEnds st.length P) (startD 5 ds) st := by
  rintro _ st P _ hcl _ ⟨p, q, k, m, rfl, hm, hk, hp, h⟩
  obtain ⟨xs, i, cur, cnt, salt, hp, hq, hne, hi, hxs, h0, h1, h2, h3⟩ := hp
  refine seq_cut (fun e s => ∃ (i' : Nat) (cur' : Int) (y2 : Option D), i' ≤ xs.length ∧ e = [some (.ref p), some (.int m), y2, none, none] ∧ s = st.set p (prow q i' cur' cnt salt)) (fun nx hn => ?_) ?_
  · refine ok_ hp (ok_ (atI_nat (j := 2) rfl) ?_)
    have no : st = st.set p (prow q i cur cnt salt) := by
      obtain ⟨hlt, e⟩ := List.getElem?_eq_some_iff.mp hp
      rw [← e, List.set_getElem_self]
    refine bool_ (fun hc => ?_) (fun _ => hn _ _ ⟨i, cur, none, hi, rfl, no⟩)
    refine ok_ hp (ok_ (atI_nat (j := 1) rfl) (ok_ hp (ok_ (atI_nat (j := 0) rfl) (ok_ hq ?_))))
    refine bool_ (fun hi2 => ?_) (fun _ => hn _ _ ⟨i, cur, none, hi, rfl, no⟩)
    have hi2 : (i : Int) < (xs.map D.int).length := of_decide_eq_true hi2
    rw [List.length_map] at hi2
    have hx : (xs.map D.int)[i]? = some (.int (xs[i]'(by omega))) := by
      rw [List.getElem?_map, List.getElem?_eq_getElem (by omega)]; rfl
    generalize xs[i]'(by omega) = c at hx
    have hlt := (List.getElem?_eq_some_iff.mp hp).1
    have g1 : ∀ row, (st.set p row)[p]? = some row := fun _ => get_self hlt
    refine ok_ hp (ok_ (atI_nat (j := 0) rfl) (ok_ hp (ok_ (atI_nat (j := 1) rfl) (ok_ hq (ok_ (atI_nat (j := i) hx) (ok_ hp (ok_ (atI_nat (j := 1) rfl) (ok_ hp (ok_ (show ixN 5 1 = some 1 from rfl) ?_)))))))))
    refine ok_ (g1 _) (ok_ (show ixN 5 2 = some 2 from rfl) ?_)
    rw [List.set_set]
    refine bool_ (fun _ => ?_) (fun _ => ?_)
    · refine ⟨rfl, c, rfl, fun v => ok_ (g1 _) (ok_ (show ixN 5 2 = some 2 from rfl) (hn _ _ ⟨i + 1, v, some (.int c), by omega, rfl, ?_⟩))⟩
      rw [List.set_set]
      rfl
    · exact hn _ _ ⟨i + 1, c, some (.int c), by omega, rfl, rfl⟩
  · rintro _ _ ⟨i', cur', y2, hi', rfl, rfl⟩
    have hlt := (List.getElem?_eq_some_iff.mp hp).1
    have g1 : ∀ row, (st.set p row)[p]? = some row := fun _ => get_self hlt
    have hql : q < st.length := (List.getElem?_eq_some_iff.mp hq).1
    have out : ∀ cur2, Pool (st.set p (prow q i' cur2 (cnt + 1) salt)) p q (k + 1) := fun cur2 => ⟨xs, i', cur2, cnt + 1, salt, g1 _, by rw [get_other hne]; exact hq, hne, hi', hxs, by omega, by omega, h2, h3⟩
    refine ok_ (g1 _) (ok_ (atI_nat (j := 3) rfl) (ok_ (g1 _) (ok_ (show ixN 5 3 = some 3 from rfl) ?_)))
    rw [List.set_set]
    refine ok_ (g1 _) (ok_ (atI_nat (j := 2) rfl) ?_)
    refine bool_ (fun _ => ?_) (fun _ => ?_)
    · refine ok_ (g1 _) (ok_ (atI_nat (j := 4) rfl) ⟨mulB_small (n := 20) (m := 16) (by omega) (by omega) (by omega) (by omega) (by omega), ok_ (g1 _) (ok_ (atI_nat (j := 3) rfl) ⟨mulB_small (n := 21) (m := 17) (by omega) (by omega) (by omega) (by omega) (by omega), by omega, ?_⟩)⟩)
      generalize hz : (salt * 48271 + (cnt + 1) * 69621 + 1).fmod 2147483647 = z
      have hz := hz ▸ fmod_nn (a := salt * 48271 + (cnt + 1) * 69621 + 1) (m := 2147483647) (by decide)
      refine ⟨mulB_small (n := 31) (m := 15) (by omega) (by omega) (by omega) (by omega) (by omega), ok_ (g1 _) (ok_ (atI_nat (j := 3) rfl) ⟨by omega, by omega, by omega, ret0 ?_⟩)⟩
      have hv := fmod_nn (a := ((z * 16807 + (cnt + 1)).fmod 2147483629).fdiv 5) hm
      exact h _ _ hv.1 hv.2 (out cur')
    · refine ok_ (g1 _) (ok_ (atI_nat (j := 2) rfl) ⟨by omega, ok_ (g1 _) (ok_ (atI_nat (j := 2) rfl) ⟨by omega, ok_ (g1 _) (ok_ (show ixN 5 2 = some 2 from rfl) (ret0 ?_))⟩)⟩)
      rw [List.set_set]
      have hv := fmod_nn (a := cur') hm
      exact h _ _ hv.1 hv.2 (out (cur'.fdiv m))
end DL

namespace DL
open PySem PySem.Spec PyProof.Rows L2 C8
theorem pl_divInt {v d : Int} (hd : 0 < d) (h1 : -d < v) (h2 : v < d) : Pl (Rat.divInt v d) := by
  rw [Rat.divInt_eq_div]
  have h : (0 : Rat) < d := by exact_mod_cast hd
  have e1 : (-d : Rat) < v := by exact_mod_cast h1
  have e2 : (v : Rat) < d := by exact_mod_cast h2
  refine ⟨?_, ?_⟩
  · rw [Rat.lt_div_iff h]; grind
  · rw [Rat.div_lt_iff h]; grind
theorem lv_divInt {v d : Int} (hd : 0 < d) (h1 : -d ≤ v) (h2 : v ≤ d) : Lv (Rat.divInt v d) := by
  rw [Rat.divInt_eq_div]
  have h : (0 : Rat) < d := by exact_mod_cast hd
  have e1 : (-d : Rat) ≤ v := by exact_mod_cast h1
  have e2 : (v : Rat) ≤ d := by exact_mod_cast h2
  exact ⟨neg_one_le_div h (by grind), div_le_one h (by grind)⟩

def sp_Lplace : DSp := fun ds st P => ∃ p q k : Nat, ds = [.ref p] ∧ k ≤ 999000 ∧ Pool st p q k ∧ ∀ x row, Pl x → Sz 3 x → Pool (st.set p row) p q (k + 2) → P (fr x) (st.set p row)
def b_Lplace : DS := (dSeq (dAsg (dOp rAddD (dC (.int 2)) (dCall 2 sp_Ldraw (dCons (dVar 0) (dCons (dC (.int 6)) dNil)))) (dgName 1))
  (dRet (dCall 2 sp_Lf (dCons (dOp rAddD (dOp rSubD (dCall 2 sp_Ldraw (dCons (dVar 0) (dCons (dOp rSubD (dOp rMulD (dC (.int 2)) (dVar 1)) (dC (.int 1))) dNil))) (dVar 1)) (dC (.int 1))) (dCons (dVar 1) dNil)))))
theorem v_Lplace : ∀ ds st P, ds.length = 1 → clSt st.length st = true → clDs st.length ds = true → sp_Lplace ds st P → b_Lplace (bodyEnds st.length P) (startD 2 ds) st := by
  rintro _ st P _ hcl _ ⟨p, q, k, rfl, hk, hp, h⟩
  refine ⟨rfl, p, q, k, 6, rfl, by omega, by omega, hp, fun v row hv hv2 nx => ?_⟩
  refine ⟨mulB_small (n := 2) (m := 4) (by omega) (by omega) (by omega) (by omega) (by omega), rfl, p, q, k + 1, _, rfl, by omega, by omega, nx, fun w row2 hw hw2 nx2 => ?_⟩
  rw [List.set_set]
  refine ⟨rfl, _, _, rfl, by omega, ret0 (h _ _ (pl_divInt (by omega) (by omega) (by omega)) (sz_divInt (by omega) (by omega) (by omega)) nx2.set2)⟩

def sp_Llevel : DSp := fun ds st P => ∃ p q k : Nat, ds = [.ref p] ∧ k ≤ 999000 ∧ Pool st p q k ∧ ∀ x row, Lv x → Sz 3 x → Pool (st.set p row) p q (k + 2) → P (fr x) (st.set p row)
def b_Llevel : DS := (dSeq (dAsg (dOp rAddD (dC (.int 1)) (dCall 2 sp_Ldraw (dCons (dVar 0) (dCons (dC (.int 6)) dNil)))) (dgName 1))
  (dRet (dCall 2 sp_Lf (dCons (dOp rSubD (dCall 2 sp_Ldraw (dCons (dVar 0) (dCons (dOp rAddD (dOp rMulD (dC (.int 2)) (dVar 1)) (dC (.int 1))) dNil))) (dVar 1)) (dCons (dVar 1) dNil)))))
theorem v_Llevel : ∀ ds st P, ds.length = 1 → clSt st.length st = true → clDs st.length ds = true → sp_Llevel ds st P → b_Llevel (bodyEnds st.length P) (startD 2 ds) st := by
  rintro _ st P _ hcl _ ⟨p, q, k, rfl, hk, hp, h⟩
  refine ⟨rfl, p, q, k, 6, rfl, by omega, by omega, hp, fun v row hv hv2 nx => ?_⟩
  refine ⟨mulB_small (n := 2) (m := 4) (by omega) (by omega) (by omega) (by omega) (by omega), rfl, p, q, k + 1, _, rfl, by omega, by omega, nx, fun w row2 hw hw2 nx2 => ?_⟩
  rw [List.set_set]
  refine ⟨rfl, _, _, rfl, by omega, ret0 (h _ _ (lv_divInt (by omega) (by omega) (by omega)) (sz_divInt (by omega) (by omega) (by omega)) nx2.set2)⟩

def sp_Lplaces : DSp := fun ds st P => ∃ p q k most : Nat, ds = [.ref p, .int most] ∧ most ≤ 100 ∧ k ≤ 998000 ∧ Pool st p q k ∧ ∀ (xs : List Rat) row, xs.Nodup → (∀ x ∈ xs, Pl x ∧ Sz 3 x) → xs.length ≤ most → Pool (st.set p row) p q (k + 1 + 2 * most) → P (.ref st.length) (st.set p row ++ [xs.map fr])
def b_Lplaces : DS := (dSeq (dAsg (dLst dNil) (dgName 2))
  (dSeq (dFor (iRng1D (dCons (dCall 2 sp_Ldraw (dCons (dVar 0) (dCons (dOp rAddD (dVar 1) (dC (.int 1))) dNil))) dNil)) (dgName 3) (dSeq (dAsg (dCall 1 sp_Lplace (dCons (dVar 0) dNil)) (dgName 4))
  (dIf (dB (dOp (rInB true) (dVar 4) (dVar 2))) (dExpr (dAppend (dVar 2) (dVar 4))) dNext)))
  (dSeq (dFor (iRng1D (dCons (dBlt rLenD (dCons (dVar 2) dNil)) dNil)) (dgName 5) (dFor (iRng1D (dCons (dVar 5) dNil)) (dgName 3) (dIf (dB (dCall 2 sp_Lless (dCons (dOp rIxD (dVar 2) (dVar 5)) (dCons (dOp rIxD (dVar 2) (dVar 3)) dNil)))) (dAsg (dTup (dCons (dOp rIxD (dVar 2) (dVar 3)) (dCons (dOp rIxD (dVar 2) (dVar 5)) dNil))) (dgTup (dgCons (dgSub (dVar 2) (dVar 5)) (dgCons (dgSub (dVar 2) (dVar 3)) dgNil)) 2)) dNext)))
  (dRet (dVar 2)))))
theorem optAll_map {α β : Type} {f : α → Option β} {g : α → β} : ∀ {l : List α}, (∀ a ∈ l, f a = some (g a)) → optAll (l.map f) = some (l.map g)
  | [], _ => rfl
  | a :: r, h => by
    rw [List.map_cons, h a List.mem_cons_self]
    show (match optAll (r.map f) with | some l => some (g a :: l) | none => none) = _
    rw [optAll_map fun b hb => h b (List.mem_cons_of_mem _ hb)]
    rfl
theorem toPy_frs {st : Store} {n : Nat} (xs : List Rat) : optAll ((xs.map fr).map (toPy st (n + 2))) = some (xs.map pyR) := by
  rw [List.map_map]
  exact optAll_map fun a _ => toPy_fr
theorem toPy_list {st : Store} {n k : Nat} {xs : List Rat} (h : st[k]? = some (xs.map fr)) : toPy st (n + 3) (.ref k) = some (.list (xs.map pyR)) := by
  show (match st[k]? with | some ds => (match optAll (ds.map (toPy st (n + 2))) with | some l => some (PyData.list l) | none => none) | none => none) = _
  rw [h]
  show (match optAll ((xs.map fr).map (toPy st (n + 2))) with | some l => some (PyData.list l) | none => none) = _
  rw [toPy_frs]
theorem inPy_frs (x : Rat) : ∀ xs : List Rat, inPy (pyR x) (xs.map pyR) = decide (x ∈ xs)
  | [] => by simp [inPy]
  | y :: r => by
    rw [List.map_cons, inPy, inPy_frs x r, eqv_fr, Bool.eq_iff_iff]
    simp only [Bool.or_eq_true, decide_eq_true_eq, List.mem_cons]
    constructor
    · rintro (h | h)
      · exact .inl h.symm
      · exact .inr h
    · rintro (h | h)
      · exact .inl h.symm
      · exact .inr h
theorem sw_perm {xs : List Rat} {i j : Nat} {a b : Rat} (hi : xs[i]? = some a) (hj : xs[j]? = some b) : ((xs.set i b).set j a).Perm xs := by
  obtain ⟨h1, e1⟩ := List.getElem?_eq_some_iff.mp hi
  obtain ⟨h2, e2⟩ := List.getElem?_eq_some_iff.mp hj
  rw [← e1, ← e2]
  exact List.set_set_perm h1 h2
theorem ixNN {n j : Nat} (h : j < n) : ixN n (j : Int) = some j := by
  unfold ixN
  rw [if_pos (by omega), if_pos (by omega)]
  simp
theorem v_Lplaces : ∀ ds st P, ds.length = 2 → clSt st.length st = true → clDs st.length ds = true → sp_Lplaces ds st P → b_Lplaces (bodyEnds st.length P) (startD 6 ds) st := by
  rintro _ st P _ hcl _ ⟨p, q, k, most, rfl, hm, hk, hp, h⟩
  have hlt := hp.lt
  refine ⟨le0, rfl, p, q, k, _, rfl, by omega, by omega, hp.app, fun v row hv hv2 hp1 => ?_⟩
  rw [set_app hlt] at hp1 ⊢
  have hp1 := hp1.cut (by rw [List.length_set]; exact hlt) (by rw [List.length_set]; exact hp.qlt)
  have hlen : ∀ (r : List D), (st.set p r).length = st.length := fun _ => List.length_set
  have gl : ∀ (r : List D) (l : List D), (st.set p r ++ [l])[st.length]? = some l := fun r l => by
    have := get_at1 (st.set p r) l
    rwa [hlen] at this
  have sl : ∀ (r : List D) (l l2 : List D), (st.set p r ++ [l]).set st.length l2 = st.set p r ++ [l2] := fun r l l2 => by
    have := set_at1 (st.set p r) l l2
    rwa [hlen] at this
  have gp : ∀ (r : List D) (l : List D), p < (st.set p r ++ [l]).length := fun r l => by rw [List.length_append, hlen]; omega
  have hxl : v.toNat ≤ most := by omega
  refine ⟨by omega, fun i e s => ∃ (row : List D) (xs : List Rat) (y3 y4 : Option D), e = [some (.ref p), some (.int most), some (.ref st.length), y3, y4, none] ∧ s = st.set p row ++ [xs.map fr] ∧ Pool (st.set p row) p q (k + 1 + 2 * i) ∧ xs.Nodup ∧ (∀ x ∈ xs, Pl x ∧ Sz 3 x) ∧ xs.length ≤ i,
    ⟨row, [], none, none, rfl, rfl, hp1, .nil, (fun x hx => by cases hx), Nat.le_refl _⟩, fun _ _ _ _ => trivial, ?_, ?_⟩
  · rintro i x _ _ hx ⟨row, xs, y3, y4, rfl, rfl, hp2, nd, hxs, hl⟩
    obtain ⟨hi, rfl⟩ := intsFrom_get hx
    refine ⟨rfl, p, q, _, rfl, by omega, hp2.app, fun x row2 hpl hsz hp3 => ?_⟩
    have hset : (st.set p row ++ [xs.map fr]).set p row2 = st.set p row2 ++ [xs.map fr] := by
      rw [set_app (by rw [hlen]; exact hlt), List.set_set]
    rw [hset] at hp3 ⊢
    have hp3 := hp3.cut (by rw [hlen]; exact hlt) (by rw [hlen]; exact hp.qlt)
    refine ok_ (toPy_list (gl _ _)) ?_
    show (if (!inPy (pyR x) (xs.map pyR)) = true then _ else _)
    rw [inPy_frs]
    by_cases hin : x ∈ xs
    · refine iteN (by simp [hin]) ?_
      exact ⟨row2, xs, _, _, rfl, rfl, hp3.mono (by omega), nd, hxs, by omega⟩
    · refine iteY (by simp [hin]) ?_
      refine ok_ (gl _ _) ⟨by rw [List.length_map]; omega, ?_⟩
      rw [sl]
      refine ⟨row2, xs ++ [x], _, _, rfl, by rw [List.map_append]; rfl, hp3.mono (by omega), ?_, ?_, by simp; omega⟩
      · rw [List.nodup_append]
        exact ⟨nd, List.nodup_cons.mpr ⟨by simp, .nil⟩, fun a ha b hb => by rw [List.mem_singleton] at hb; rintro rfl; exact hin (hb ▸ ha)⟩
      · intro z hz
        rcases List.mem_append.mp hz with hz | hz
        · exact hxs z hz
        · rw [List.mem_singleton] at hz; subst hz; exact ⟨hpl, hsz⟩
  · rintro _ _ ⟨row, xs, y3, y4, rfl, rfl, hp2, nd, hxs, hl⟩
    rw [intsFrom_len] at hp2 hl
    refine ok_ (gl _ _) ⟨by rw [List.length_map]; omega, ?_⟩
    refine ⟨fun i e s => ∃ (ys : List Rat) (y3 y5 : Option D), ys.Perm xs ∧ e = [some (.ref p), some (.int most), some (.ref st.length), y3, y4, y5] ∧ s = st.set p row ++ [ys.map fr], ⟨xs, y3, none, .refl _, rfl, rfl⟩, fun _ _ _ _ => trivial, ?_, ?_⟩
    · rintro j _ _ _ hx ⟨ys, y3, y5, pm, rfl, rfl⟩
      obtain ⟨hj, rfl⟩ := intsFrom_get hx
      have hj : j < ys.length := by rw [pm.length_eq]; simpa using hj
      refine ⟨by have := pm.length_eq; omega, ?_⟩
      refine ⟨fun i e s => ∃ (ys : List Rat) (y3 : Option D), ys.Perm xs ∧ e = [some (.ref p), some (.int most), some (.ref st.length), y3, y4, some (.int (0 + (j : Int)))] ∧ s = st.set p row ++ [ys.map fr], ⟨ys, y3, pm, rfl, rfl⟩, fun _ _ _ _ => trivial, ?_, ?_⟩
      · rintro i _ _ _ hx ⟨zs, y3, pm2, rfl, rfl⟩
        obtain ⟨hi, rfl⟩ := intsFrom_get hx
        have hl2 := pm2.length_eq
        have hl3 := pm.length_eq
        have hj2 : j < zs.length := by omega
        have hi2 : i < zs.length := by omega
        obtain ⟨a, ha⟩ : ∃ a, zs[j]? = some a := ⟨_, List.getElem?_eq_getElem hj2⟩
        obtain ⟨b, hb⟩ : ∃ b, zs[i]? = some b := ⟨_, List.getElem?_eq_getElem hi2⟩
        have ha' : (zs.map fr)[j]? = some (fr a) := by rw [List.getElem?_map, ha]; rfl
        have hb' : (zs.map fr)[i]? = some (fr b) := by rw [List.getElem?_map, hb]; rfl
        have sa := hxs a (pm2.mem_iff.mp (List.mem_of_getElem? ha))
        have sb := hxs b (pm2.mem_iff.mp (List.mem_of_getElem? hb))
        have e1 : atI (zs.map fr) (0 + (j : Int)) = some (fr a) := by rw [Int.zero_add]; exact atI_nat ha'
        have e2 : atI (zs.map fr) (0 + (i : Int)) = some (fr b) := by rw [Int.zero_add]; exact atI_nat hb'
        refine ok_ (gl _ _) (ok_ e1 (ok_ (gl _ _) (ok_ e2 ⟨rfl, a, b, rfl, sa.2.bd (by omega), sb.2.bd (by omega), ?_⟩)))
        refine bool_ (fun _ => ?_) (fun _ => ?_)
        · refine ok_ (gl _ _) (ok_ e2 (ok_ (gl _ _) (ok_ e1 ⟨le2, rfl, ok_ (gl _ _) (ok_ (show ixN (zs.map fr).length (0 + (j : Int)) = some j from ?_) ?_)⟩)))
          · rw [Int.zero_add]; exact DL.ixNN (by rw [List.length_map]; exact hj2)
          · rw [sl]
            refine ok_ (gl _ _) (ok_ (show ixN ((zs.map fr).set j (fr b)).length (0 + (i : Int)) = some i from ?_) ?_)
            · rw [Int.zero_add]; exact DL.ixNN (by rw [List.length_set, List.length_map]; exact hi2)
            · rw [sl]
              refine ⟨(zs.set j b).set i a, _, (sw_perm ha hb).trans pm2, rfl, ?_⟩
              rw [List.map_set, List.map_set]
        · exact ⟨zs, _, pm2, rfl, rfl⟩
      · rintro _ _ ⟨zs, y3, pm2, rfl, rfl⟩
        exact ⟨zs, y3, _, pm2, rfl, rfl⟩
    · rintro _ _ ⟨ys, y3, y5, pm, rfl, rfl⟩
      refine ret0 (h ys row (pm.nodup_iff.mpr nd) (fun x hx => hxs x (pm.mem_iff.mp hx)) (by rw [pm.length_eq]; omega) (hp2.mono (by omega)))

def sp_Lladder : DSp := fun ds st P => ∃ p q k most : Nat, ds = [.ref p, .int most] ∧ most ≤ 100 ∧ k ≤ 998000 ∧ Pool st p q k ∧ ∀ (s : List (Rat × Rat)) (l : Rat) row, stepsOk s → Lv l → (∀ t ∈ s, Sz 3 t.1 ∧ Sz 3 t.2) → Sz 3 l → s.length ≤ most → Pool (st.set p row) p q (k + 4 + 4 * most) → P (ladD s l) (st.set p row)
def b_Lladder : DS := (dSeq (dAsg (dLc [4] (iRng1D (dCons (dCall 2 sp_Ldraw (dCons (dVar 0) (dCons (dOp rAddD (dVar 1) (dC (.int 1))) dNil))) dNil)) dYes (dTup (dCons (dCall 1 sp_Lplace (dCons (dVar 0) dNil)) (dCons (dCall 1 sp_Lplace (dCons (dVar 0) dNil)) dNil)))) (dgName 2))
  (dSeq (dAsg (dIfE (dB (dOp rEqD' (dCall 2 sp_Ldraw (dCons (dVar 0) (dCons (dC (.int 2)) dNil))) (dC (.int 0)))) (dTup (dCons (dOp rSubD (dC (.int 1)) (dOp rMulD (dC (.int 2)) (dCall 2 sp_Ldraw (dCons (dVar 0) (dCons (dC (.int 2)) dNil))))) (dCons (dC (.int 1)) dNil))) (dCall 1 sp_Llevel (dCons (dVar 0) dNil))) (dgName 3))
  (dRet (dTup (dCons (dBlt rTupleD (dCons (dVar 2) dNil)) (dCons (dVar 3) dNil))))))
theorem v_Lladder : ∀ ds st P, ds.length = 2 → clSt st.length st = true → clDs st.length ds = true → sp_Lladder ds st P → b_Lladder (bodyEnds st.length P) (startD 5 ds) st := by
  rintro _ st P _ hcl _ ⟨p, q, k, most, rfl, hm, hk, hp, h⟩
  have hlt := hp.lt
  have hql := hp.qlt
  have hlen : ∀ (r : List D), (st.set p r).length = st.length := fun _ => List.length_set
  have gl : ∀ (r : List D) (l : List D), (st.set p r ++ [l])[st.length]? = some l := fun r l => by
    have := get_at1 (st.set p r) l
    rwa [hlen] at this
  have sl : ∀ (r : List D) (l l2 : List D), (st.set p r ++ [l]).set st.length l2 = st.set p r ++ [l2] := fun r l l2 => by
    have := set_at1 (st.set p r) l l2
    rwa [hlen] at this
  have hset : ∀ (r r2 l : List D), (st.set p r ++ [l]).set p r2 = st.set p r2 ++ [l] := fun r r2 l => by
    rw [set_app (by rw [hlen]; exact hlt), List.set_set]
  have cut : ∀ {r l : List D} {k : Nat}, Pool (st.set p r ++ [l]) p q k → Pool (st.set p r) p q k := fun h => h.cut (by rw [hlen]; exact hlt) (by rw [hlen]; exact hql)
  refine ⟨rfl, p, q, k, _, rfl, by omega, by omega, hp, fun v row hv hv2 hp1 => ?_⟩
  refine ⟨by omega, fun i s => ∃ (row : List D) (t : List (Rat × Rat)), s = st.set p row ++ [t.map ptD] ∧ Pool (st.set p row) p q (k + 1 + 4 * i) ∧ stepsOk t ∧ (∀ u ∈ t, Sz 3 u.1 ∧ Sz 3 u.2) ∧ t.length = i, ⟨row, [], rfl, hp1, (fun x hx => by cases hx), (fun x hx => by cases hx), rfl⟩, fun _ _ _ => trivial, ?_, ?_⟩
  · rintro i x _ hx ⟨row, t, rfl, hp2, ht, hz, hl⟩
    obtain ⟨hi, rfl⟩ := intsFrom_get hx
    refine ⟨rfl, p, q, _, rfl, by omega, hp2.app, fun x row2 hx1 hx2 hp3 => ?_⟩
    rw [hset] at hp3 ⊢
    refine ⟨rfl, p, q, _, rfl, by omega, hp3, fun y row3 hy1 hy2 hp4 => ?_⟩
    rw [hset] at hp4 ⊢
    have hp4 := cut hp4
    refine ⟨le2, t.map ptD, by rw [hlen]; exact gl _ _, by rw [List.length_map]; omega, ?_⟩
    rw [hlen, sl]
    refine ⟨row3, t ++ [(x, y)], by rw [List.map_append]; rfl, hp4.mono (by omega), ?_, ?_, by simp [hl]⟩
    · intro u hu
      rcases List.mem_append.mp hu with hu | hu
      · exact ht u hu
      · rw [List.mem_singleton] at hu; subst hu; exact ⟨hx1, hy1⟩
    · intro u hu
      rcases List.mem_append.mp hu with hu | hu
      · exact hz u hu
      · rw [List.mem_singleton] at hu; subst hu; exact ⟨hx2, hy2⟩
  · rintro _ ⟨row, t, rfl, hp2, ht, hz, hl⟩
    rw [intsFrom_len] at hp2 hl
    have fin : ∀ (l : Rat) (row2 : List D), Lv l → Sz 3 l → Pool (st.set p row2 ++ [t.map ptD]) p q (k + 4 + 4 * most) → RetP st.length P (ladD t l) (st.set p row2 ++ [t.map ptD]) := fun l row2 h1 h2 h3 => by
      have h4 := cut h3
      refine .inr (.inl ⟨_, _, rfl, by rw [hlen]; exact Nat.le_refl _, clD_lad, ?_, h t l row2 ht h1 hz h2 (by omega) h4⟩)
      rw [hlen]
      exact clSt_set hcl (h4.cl hql)
    refine ⟨rfl, p, q, _, 2, rfl, by omega, by omega, hp2.app, fun v2 row2 hv3 hv4 hp3 => ?_⟩
    rw [hset] at hp3 ⊢
    refine bool_ (fun _ => ?_) (fun _ => ?_)
    · refine ⟨rfl, p, q, _, 2, rfl, by omega, by omega, hp3, fun v3 row3 hv5 hv6 hp4 => ?_⟩
      rw [hset] at hp4 ⊢
      refine ⟨mulB_small (n := 2) (m := 2) (by omega) (by omega) (by omega) (by omega) (by omega), le2, ?_⟩
      rw [hlen]
      refine ok_ (gl _ _) ⟨le2, ?_⟩
      have : v3 = 0 ∨ v3 = 1 := by omega
      rcases this with rfl | rfl
      · exact fin 1 row3 (by decide) (sz_one.mono (by omega)) (hp4.mono (by omega))
      · exact fin (-1) row3 (by decide) (sz_one.neg.mono (by omega)) (hp4.mono (by omega))
    · refine ⟨rfl, p, q, _, rfl, by omega, hp3, fun l row3 hl1 hl2 hp4 => ?_⟩
      rw [hset] at hp4 ⊢
      rw [hlen]
      refine ok_ (gl _ _) ⟨le2, ?_⟩
      exact fin l row3 hl1 hl2 (hp4.mono (by omega))
end DL

namespace DL
open PySem PySem.Spec PyProof.Rows L2 C8

theorem szs_rep {n c : Nat} : ∀ {s : List (Rat × Rat)}, (∀ t ∈ s, Sz n t.1 ∧ Sz c t.2) → szs n s (List.replicate s.length c)
  | [], _ => True.intro
  | p :: r, h => ⟨(h p List.mem_cons_self).1, (h p List.mem_cons_self).2, szs_rep fun t ht => h t (List.mem_cons_of_mem _ ht)⟩
theorem vsz_rep {n m c : Nat} : ∀ k : Nat, vsz n m (List.replicate k c) = k * (2 * n + c + 2) + m
  | 0 => by rw [List.replicate_zero, vsz]; omega
  | k + 1 => by rw [List.replicate_succ, vsz, vsz_rep k, Nat.add_mul]; omega
theorem half_fr : D.tup [.int 1, .int 2] = fr (1 / 2) := by
  unfold fr
  rw [show (1 / 2 : Rat).num = 1 by decide +kernel, show (1 / 2 : Rat).den = 2 by decide +kernel]
  rfl
theorem half_arg (x : D) : [x, D.tup [.int 1, .int 2]] = [x, fr (1 / 2)] := by rw [half_fr]
def b_law : DS := (dSeq (dAsg (dCall 1 sp_Lpool (dCons (dVar 0) dNil)) (dgName 1))
  (dSeq (dAsg (dCall 2 sp_Lladder (dCons (dVar 1) (dCons (dC (.int 3)) dNil))) (dgName 2))
  (dSeq (dAsg (dBlt rTupleD (dCons (dLc [25] (iSeq (dCall 2 sp_Lplaces (dCons (dVar 1) (dCons (dC (.int 3)) dNil)))) dYes (dTup (dCons (dVar 25) (dCons (dCall 2 sp_Lon (dCons (dVar 2) (dCons (dVar 25) dNil))) dNil)))) dNil)) (dgName 3))
  (dSeq (dAsg (dLc [25, 12] (iSeq (dVar 3)) dYes (dVar 25)) (dgName 4))
  (dSeq (dPar 5 6 (dCons (dCall 1 sp_Lplace (dCons (dVar 1) dNil)) (dCons (dCall 1 sp_Lplace (dCons (dVar 1) dNil)) dNil)))
  (dSeq (dIf (dOr (dB (dOp rEqD' (dVar 5) (dVar 6))) (dOr (dB (dOp (rInB false) (dVar 5) (dVar 4))) (dB (dOp (rInB false) (dVar 6) (dVar 4))))) (dRet (dOp (rIsD false) (dCall 1 sp_can_be_told (dCons (dVar 3) dNil)) (dC (.bl true)))) dNext)
  (dSeq (dAsg (dCall 2 sp_range_at (dCons (dVar 3) (dCons (dVar 5) dNil))) (dgTup (dgCons (dgName 7) (dgCons (dgName 8) dgNil)) 2))
  (dSeq (dAsg (dLst dNil) (dgName 9))
  (dSeq (dFor (iRng1D (dCons (dC (.int 2)) dNil)) (dgName 10) (dSeq (dAsg (dCall 2 sp_Lf (dCons (dCall 2 sp_Ldraw (dCons (dVar 1) (dCons (dC (.int 5)) dNil))) (dCons (dC (.int 4)) dNil))) (dgName 11))
  (dSeq (dAsg (dCall 2 sp_Ladd (dCons (dVar 7) (dCons (dCall 2 sp_Lmul (dCons (dVar 11) (dCons (dCall 2 sp_Lsub (dCons (dVar 8) (dCons (dVar 7) dNil))) dNil))) dNil))) (dgName 12))
  (dSeq (dAsg (dCall 3 sp_with_point (dCons (dVar 3) (dCons (dVar 5) (dCons (dVar 12) dNil)))) (dgName 13))
  (dSeq (dAsg (dCall 2 sp_range_at (dCons (dVar 13) (dCons (dVar 6) dNil))) (dgName 14))
  (dSeq (dIf (dOr (dB (dOp (rIsD true) (dCall 1 sp_can_be_told (dCons (dVar 13) dNil)) (dC (.bl true)))) (dB (dCall 2 sp_Lless (dCons (dOp rIxD (dVar 14) (dC (.int 1))) (dCons (dOp rIxD (dVar 14) (dC (.int 0))) dNil))))) (dRet (dC (.bl false))) dNext)
  (dSeq (dAsg (dCall 2 sp_Lf (dCons (dCall 2 sp_Ldraw (dCons (dVar 1) (dCons (dC (.int 5)) dNil))) (dCons (dC (.int 4)) dNil))) (dgName 15))
  (dSeq (dExpr (dAppend (dVar 9) (dTup (dCons (dVar 12) (dCons (dCall 2 sp_Ladd (dCons (dOp rIxD (dVar 14) (dC (.int 0))) (dCons (dCall 2 sp_Lmul (dCons (dVar 15) (dCons (dCall 2 sp_Lsub (dCons (dOp rIxD (dVar 14) (dC (.int 1))) (dCons (dOp rIxD (dVar 14) (dC (.int 0))) dNil))) dNil))) dNil))) (dCons (dVar 14) dNil))))))
  (dIf (dB (dOp (rIsD true) (dCall 1 sp_can_be_told (dCons (dCall 3 sp_with_point (dCons (dVar 13) (dCons (dVar 6) (dCons (dOp rIxD (dOp rIxD (dVar 9) (dUn rNegD (dC (.int 1)))) (dC (.int 1))) dNil)))) dNil)) (dC (.bl true)))) (dRet (dC (.bl false))) dNext)))))))))
  (dSeq (dAsg (dCall 2 sp_Lmul (dCons (dCall 2 sp_Ladd (dCons (dOp rIxD (dOp rIxD (dVar 9) (dC (.int 0))) (dC (.int 0))) (dCons (dOp rIxD (dOp rIxD (dVar 9) (dC (.int 1))) (dC (.int 0))) dNil))) (dCons (dTup (dCons (dC (.int 1)) (dCons (dC (.int 2)) dNil))) dNil))) (dgName 16))
  (dSeq (dAsg (dCall 2 sp_Lmul (dCons (dCall 2 sp_Ladd (dCons (dOp rIxD (dOp rIxD (dVar 9) (dC (.int 0))) (dC (.int 1))) (dCons (dOp rIxD (dOp rIxD (dVar 9) (dC (.int 1))) (dC (.int 1))) dNil))) (dCons (dTup (dCons (dC (.int 1)) (dCons (dC (.int 2)) dNil))) dNil))) (dgName 17))
  (dSeq (dAsg (dCall 3 sp_with_point (dCons (dVar 3) (dCons (dVar 5) (dCons (dVar 16) dNil)))) (dgName 18))
  (dSeq (dIf (dB (dOp (rIsD true) (dCall 1 sp_can_be_told (dCons (dCall 3 sp_with_point (dCons (dVar 18) (dCons (dVar 6) (dCons (dVar 17) dNil)))) dNil)) (dC (.bl true)))) (dRet (dC (.bl false))) dNext)
  (dSeq (dAsg (dCall 2 sp_range_at (dCons (dVar 18) (dCons (dVar 6) dNil))) (dgName 14))
  (dSeq (dAsg (dCall 2 sp_Lmul (dCons (dCall 2 sp_Ladd (dCons (dOp rIxD (dOp rIxD (dOp rIxD (dVar 9) (dC (.int 0))) (dC (.int 2))) (dC (.int 0))) (dCons (dOp rIxD (dOp rIxD (dOp rIxD (dVar 9) (dC (.int 1))) (dC (.int 2))) (dC (.int 0))) dNil))) (dCons (dTup (dCons (dC (.int 1)) (dCons (dC (.int 2)) dNil))) dNil))) (dgName 19))
  (dSeq (dAsg (dCall 2 sp_Lmul (dCons (dCall 2 sp_Ladd (dCons (dOp rIxD (dOp rIxD (dOp rIxD (dVar 9) (dC (.int 0))) (dC (.int 2))) (dC (.int 1))) (dCons (dOp rIxD (dOp rIxD (dOp rIxD (dVar 9) (dC (.int 1))) (dC (.int 2))) (dC (.int 1))) dNil))) (dCons (dTup (dCons (dC (.int 1)) (dCons (dC (.int 2)) dNil))) dNil))) (dgName 20))
  (dSeq (dIf (dOr (dB (dCall 2 sp_Lless (dCons (dVar 19) (dCons (dOp rIxD (dVar 14) (dC (.int 0))) dNil)))) (dB (dCall 2 sp_Lless (dCons (dOp rIxD (dVar 14) (dC (.int 1))) (dCons (dVar 20) dNil))))) (dRet (dC (.bl false))) dNext)
  (dSeq (dAsg (dCall 2 sp_range_at (dCons (dVar 3) (dCons (dVar 6) dNil))) (dgName 21))
  (dSeq (dFor (iSeq (dVar 9)) (dgTup (dgCons (dgName 12) (dgCons (dgName 22) (dgCons (dgName 23) dgNil))) 3) (dIf (dOr (dB (dCall 2 sp_Lless (dCons (dOp rIxD (dVar 23) (dC (.int 0))) (dCons (dOp rIxD (dVar 21) (dC (.int 0))) dNil)))) (dB (dCall 2 sp_Lless (dCons (dOp rIxD (dVar 21) (dC (.int 1))) (dCons (dOp rIxD (dVar 23) (dC (.int 1))) dNil))))) (dRet (dC (.bl false))) dNext))
  (dSeq (dFor (iRng1D (dCons (dC (.int 2)) dNil)) (dgName 10) (dSeq (dAsg (dCall 2 sp_range_at (dCons (dCall 3 sp_with_point (dCons (dVar 3) (dCons (dVar 5) (dCons (dOp rIxD (dTup (dCons (dVar 7) (dCons (dVar 8) dNil))) (dVar 10)) dNil)))) (dCons (dVar 6) dNil))) (dgName 24))
  (dIf (dB (dOp rNeD' (dOp rIxD (dVar 24) (dC (.int 0))) (dOp rIxD (dVar 24) (dC (.int 1))))) (dRet (dC (.bl false))) dNext)))
  (dRet (dC (.bl true)))))))))))))))))))))))
theorem v_law : ∀ ds st P, ds.length = 1 → clSt st.length st = true → clDs st.length ds = true → sp_law ds st P → b_law (bodyEnds st.length P) (startD 26 ds) st := by
  rintro _ st P _ _ _ ⟨ns, rfl, hns, hP⟩
  refine ⟨rfl, ns, rfl, hns, fun xs row _ hp => ?_⟩
  generalize st ++ [xs, xs, row] = S at hp ⊢
  generalize st.length + 2 = p at hp ⊢
  generalize st.length + 1 = q at hp
  refine ⟨rfl, p, q, 0, 3, rfl, by omega, by omega, hp, fun s l row hs hl hsz hlz hsl hp => ?_⟩
  generalize S.set p row = S at hp ⊢
  refine ⟨rfl, p, q, _, 3, rfl, by omega, by omega, hp, fun xs row hnd hxs hxl hp => ?_⟩
  have hlen : (S.set p row).length = S.length := List.length_set
  generalize S.set p row = S1 at hp hlen ⊢
  rw [← hlen]
  refine ok_ (get_at1 _ _) ?_
  have hq := tell_val (fun x hx => (hxs x hx).1) hnd hs hl
  have zs := szs_rep hsz
  have vb : ∀ x ∈ xs, ∀ k, Sz 40 (val x (s.drop k) l) := fun x hx k => szs_drop (hxs x hx).2 zs hlz (by rw [vsz_rep]; omega) k
  have hz : PZ 3 40 (xs.map fun x => (x, val x s l)) := ⟨by rw [List.length_map]; omega, hq.1, fun p hp => by
    obtain ⟨x, hx, rfl⟩ := List.mem_map.mp hp
    exact ⟨(hxs x hx).2, vb x hx 0⟩, by omega, lsz_le (by rw [List.length_map]; have : 2 ^ xs.length ≤ 2 ^ 3 := Nat.pow_le_pow_right (by omega) hxl; omega)⟩
  have hP0 : ∀ y, y ∉ xs → ∀ p ∈ xs.map (fun x => (x, val x s l)), p.1 ≠ y := fun y hy p hp e => by
    obtain ⟨x, hx, rfl⟩ := List.mem_map.mp hp
    exact hy (e ▸ hx)
  refine lc_yes ((xs.map fun x => (x, val x s l)).map ptD) (by simp) (by simp; omega) (fun acc => get_in (get_at1 _ _)) (fun i x y hx hy => ?_) ?_
  · obtain ⟨a, ha, rfl⟩ := map_get hx
    obtain ⟨b, hb, rfl⟩ := map_get hy
    obtain ⟨c, hc, rfl⟩ := map_get hb
    rw [ha] at hc; cases hc
    obtain ⟨h1, h2⟩ := hxs a (List.mem_of_getElem? ha)
    exact ⟨_, rfl, fun acc P' q => ⟨rfl, s, l, a, 40, rfl, hs, hl, h1.lv, by omega, fun t ht => ⟨(hsz t ht).1.mono (by omega), (hsz t ht).2.mono (by omega)⟩, h2.mono (by omega), vb a (List.mem_of_getElem? ha), le2, q⟩⟩
  refine ok_ (get_at1 _ _) ?_
  have hl0 : (xs.map fun x => (x, val x s l)).length ≤ 3 := by rw [List.length_map]; exact hxl
  generalize hPe : (xs.map fun x => (x, val x s l)) = P0 at hq hz hP0 hl0 ⊢
  have hfst : P0.map (fun p => fr p.1) = xs.map fr := by rw [← hPe, List.map_map]; rfl
  obtain ⟨okP, tP⟩ := hq
  generalize hd : D.tup (P0.map ptD) = d0
  have hs0 : ∀ st, seqD st d0 = some (P0.map ptD) := fun _ => by rw [← hd]; rfl
  have hk0 : ∀ st, keepD d0 (P0.map ptD) st := fun _ => by rw [← hd]; trivial
  refine ok_ (hs0 _) ?_
  refine lc_yes (xs.map fr) (by rw [← hfst]; simp) (by rw [List.length_map]; omega) (fun acc => hk0 _) (fun i x y hx hy => ?_) ?_
  · obtain ⟨a, ha, rfl⟩ := map_get hx
    rw [← hfst] at hy
    obtain ⟨b, hb, rfl⟩ := map_get hy
    rw [ha] at hb; cases hb
    exact ⟨_, rfl, fun acc P' q => q⟩
  have hp2 := (hp.app (g := [xs.map fr])).app (g := [P0.map ptD])
  generalize hS2 : S1 ++ [xs.map fr] ++ [P0.map ptD] = S2 at hp2 ⊢
  refine ⟨rfl, p, q, _, rfl, by omega, hp2.app, fun one row h1 h1s hp3 => ?_⟩
  rw [set_app hp2.lt] at hp3 ⊢
  have hlen3 : (S2.set p row).length = S2.length := List.length_set
  generalize S2.set p row = S3 at hp3 hlen3 ⊢
  refine ⟨rfl, p, q, _, rfl, by omega, hp3, fun two row2 h2 h2s hp4 => ?_⟩
  have hlt3 : p < S3.length := by rw [hlen3]; exact hp2.lt
  rw [set_app hlt3] at hp4 ⊢
  have hlen4 : (S3.set p row2).length = S2.length := List.length_set.trans hlen3
  generalize S3.set p row2 = S4 at hp4 hlen4 ⊢
  rw [← hlen4]
  generalize hS5 : S4 ++ [xs.map fr] = S5 at hp4 ⊢
  have kn : S5[S4.length]? = some (xs.map fr) := by rw [← hS5]; exact get_at1 _ _
  show (if PyData.eqv (pyR one) (pyR two) = true then _ else _)
  rw [eqv_fr]
  by_cases e12 : one = two
  · refine iteY (decide_eq_true e12) ?_
    refine ⟨rfl, d0, P0, 3, 40, rfl, hs0 _, hz, ?_⟩
    rw [tP]
    exact ret0 (hP _)
  refine iteN (by simp [e12]) ?_
  refine ok_ (toPy_list kn) ?_
  show (if inPy (pyR one) (xs.map pyR) = true then _ else _)
  rw [inPy_frs]
  by_cases in1 : one ∈ xs
  · refine iteY (decide_eq_true in1) ?_
    refine ⟨rfl, d0, P0, 3, 40, rfl, hs0 _, hz, ?_⟩
    rw [tP]
    exact ret0 (hP _)
  refine iteN (by simp [in1]) ?_
  refine ok_ (toPy_list kn) ?_
  show (if inPy (pyR two) (xs.map pyR) = true then _ else _)
  rw [inPy_frs]
  by_cases in2 : two ∈ xs
  · refine iteY (decide_eq_true in2) ?_
    refine ⟨rfl, d0, P0, 3, 40, rfl, hs0 _, hz, ?_⟩
    rw [tP]
    exact ret0 (hP _)
  refine iteN (by simp [in2]) ?_
  have n1 := hP0 one in1
  have n2 := hP0 two in2
  have L0 : lsz 3 40 P0.length ≤ 384 := lsz_le (by have : 2 ^ P0.length ≤ 2 ^ 3 := Nat.pow_le_pow_right (by omega) hl0; omega)
  obtain ⟨ol, oh, ole, orng⟩ := rng1 okP n1 h1 tP
  obtain ⟨so1, so2⟩ := rng_sz hz tP h1.lv h1s
  have so1 : Sz 385 (rng P0 one).1 := so1.mono (by omega)
  have so2 : Sz 385 (rng P0 one).2 := so2.mono (by omega)
  refine ⟨rfl, d0, P0, 3, 40, one, rfl, hs0 _, hz, by omega, h1.lv, h1s, tP, rfl, le0, ?_⟩
  -- what a row is
  have rowOk : ∀ v, Lv v → Sz 2400 v → tell (wp P0 one v) = true → PZ 3 2400 (wp P0 one v) ∧ lsz 3 2400 (wp P0 one v).length ≤ 38600 ∧
      (Lv (rng (wp P0 one v) two).1 ∧ Lv (rng (wp P0 one v) two).2 ∧ (rng (wp P0 one v) two).1 ≤ (rng (wp P0 one v) two).2 ∧ ∀ w, Lv w → (tell (wp (wp P0 one v) two w) = true ↔ (rng (wp P0 one v) two).1 ≤ w ∧ w ≤ (rng (wp P0 one v) two).2)) ∧
      Sz 38601 (rng (wp P0 one v) two).1 ∧ Sz 38601 (rng (wp P0 one v) two).2 ∧ ∀ w, Lv w → Sz 232000 w → PZ 3 232000 (wp (wp P0 one v) two w) := fun v hv sv ht => by
    have hl4 := wp_len (v := v) n1
    have z : PZ 3 2400 (wp P0 one v) := hz.add (by omega) n1 h1 hv h1s sv (by omega) (lsz_le (by have : 2 ^ (P0.length + 1) ≤ 2 ^ 4 := Nat.pow_le_pow_right (by omega) (by omega); omega))
    have L1 : lsz 3 2400 (wp P0 one v).length ≤ 38600 := lsz_le (by rw [hl4]; have : 2 ^ (P0.length + 1) ≤ 2 ^ 4 := Nat.pow_le_pow_right (by omega) (by omega); omega)
    obtain ⟨s1, s2⟩ := rng_sz z ht h2.lv h2s
    refine ⟨z, L1, rng1 z.ok (wp_ne n1 n2 e12) h2 ht, s1.mono (by omega), s2.mono (by omega), fun w hw sw => ?_⟩
    exact z.add (by omega) (wp_ne n1 n2 e12) h2 hw h2s sw (by omega) (lsz_le (by rw [hl4]; have : 2 ^ (P0.length + 1 + 1) ≤ 2 ^ 5 := Nat.pow_le_pow_right (by omega) (by omega); omega))
  let rowD : Rat × Rat → D := fun r => .tup [fr r.1, fr r.2, .tup [fr (rng (wp P0 one r.1) two).1, fr (rng (wp P0 one r.1) two).2]]
  let Good : Rat × Rat → Prop := fun r => Lv r.1 ∧ Sz 1160 r.1 ∧ tell (wp P0 one r.1) = true ∧ Lv r.2 ∧ Sz 115808 r.2 ∧ tell (wp (wp P0 one r.1) two r.2) = true
  refine ⟨by omega, fun i e st' => ∃ (S6 : Store) (k : Nat) (rs : List (Rat × Rat)) (y10 y11 y12 y13 y14 y15 : Option D), st' = S6 ++ [rs.map rowD] ∧ S6.length = S5.length ∧ Pool S6 p q k ∧ k ≤ 100 + 10 * i ∧ rs.length = i ∧ (∀ r ∈ rs, Good r) ∧
      e = [some (.fz (ns.map D.int)), some (.ref p), some (ladD s l), some d0, some (.ref S4.length), some (fr one), some (fr two), some (fr (rng P0 one).1), some (fr (rng P0 one).2), some (.ref S5.length), y10, y11, y12, y13, y14, y15, none, none, none, none, none, none, none, none, none, none],
    ⟨S5, _, [], none, none, none, none, none, none, rfl, rfl, hp4, by omega, rfl, (fun r h => by cases h), rfl⟩, fun _ _ _ _ => trivial, ?_, ?_⟩
  · rintro i x _ _ hx ⟨S6, k, rs, y10, y11, y12, y13, y14, y15, rfl, hl6, hp6, hk, hrl, hgood, rfl⟩
    obtain ⟨hi, rfl⟩ := intsFrom_get hx
    have hi : i < 2 := hi
    refine ⟨rfl, p, q, k, 5, rfl, by omega, by omega, hp6.app, fun c row hc0 hc5 hp7 => ?_⟩
    rw [set_app hp6.lt] at hp7 ⊢
    have hl7 : (S6.set p row).length = S5.length := List.length_set.trans hl6
    have hp7 := hp7.cut (by rw [List.length_set]; exact hp6.lt) (by rw [List.length_set]; exact hp6.qlt)
    generalize S6.set p row = S7 at hp7 hl7 ⊢
    obtain ⟨c0, c1, cs⟩ := share_divInt hc0 hc5
    refine ⟨rfl, c, 4, rfl, by omega, ?_⟩
    generalize Rat.divInt c 4 = t at c0 c1 cs ⊢
    have sd := so2.sub so1
    have sm' := cs.mul sd
    refine ⟨rfl, _, _, rfl, so2.bd (by omega), so1.bd (by omega), rfl, _, _, rfl, cs.bd (by omega), sd.bd (by omega), rfl, _, _, rfl, so1.bd (by omega), sm'.bd (by omega), ?_⟩
    have sv := so1.add sm'
    obtain ⟨bt1, bt2⟩ := share_btw ole c0 c1
    generalize (rng P0 one).1 + t * ((rng P0 one).2 - (rng P0 one).1) = v at sv bt1 bt2 ⊢
    have hv : Lv v := ⟨Rat.le_trans ol.1 bt1, Rat.le_trans bt2 oh.2⟩
    have tv : tell (wp P0 one v) = true := (orng v hv).mpr ⟨bt1, bt2⟩
    obtain ⟨z1, L1, ⟨el, eh, ele, erng⟩, se1, se2, zw⟩ := rowOk v hv (sv.mono (by omega)) tv
    refine ⟨rfl, P0, one, v, by rw [← hd]; rfl, by omega, fun p hp => (hz.sz p hp).1.bd (by omega), h1s.bd (by omega), ?_⟩
    refine ⟨rfl, ptsD (wp P0 one v), wp P0 one v, 3, 2400, two, rfl, rfl, z1, by omega, h2.lv, h2s, tv, ?_⟩
    refine ⟨rfl, ptsD (wp P0 one v), wp P0 one v, 3, 2400, rfl, rfl, z1, ?_⟩
    rw [tv]
    refine ⟨rfl, _, _, rfl, se2.bd (by omega), se1.bd (by omega), ?_⟩
    refine iteN (by simpa [Rat.not_lt] using ele) ?_
    refine ⟨rfl, p, q, k + 1, 5, rfl, by omega, by omega, hp7.app, fun c2 row2 hc20 hc25 hp8 => ?_⟩
    rw [set_app hp7.lt] at hp8 ⊢
    have hl8 : (S7.set p row2).length = S5.length := List.length_set.trans hl7
    have hp8 := hp8.cut (by rw [List.length_set]; exact hp7.lt) (by rw [List.length_set]; exact hp7.qlt)
    generalize S7.set p row2 = S8 at hp8 hl8 ⊢
    obtain ⟨c20, c21, c2s⟩ := share_divInt hc20 hc25
    refine ⟨rfl, c2, 4, rfl, by omega, ?_⟩
    generalize Rat.divInt c2 4 = t2 at c20 c21 c2s ⊢
    have sd2 := se2.sub se1
    have sm2 := c2s.mul sd2
    have gl8 : (S8 ++ [rs.map rowD])[S5.length]? = some (rs.map rowD) := by rw [← hl8]; exact get_at1 _ _
    refine ⟨rfl, _, _, rfl, se2.bd (by omega), se1.bd (by omega), rfl, _, _, rfl, c2s.bd (by omega), sd2.bd (by omega), rfl, _, _, rfl, se1.bd (by omega), sm2.bd (by omega), le3, ok_ gl8 ⟨by rw [List.length_map]; omega, ?_⟩⟩
    have sw := se1.add sm2
    obtain ⟨bw1, bw2⟩ := share_btw ele c20 c21
    generalize (rng (wp P0 one v) two).1 + t2 * ((rng (wp P0 one v) two).2 - (rng (wp P0 one v) two).1) = w at sw bw1 bw2 ⊢
    have hw : Lv w := ⟨Rat.le_trans el.1 bw1, Rat.le_trans bw2 eh.2⟩
    have tw : tell (wp (wp P0 one v) two w) = true := (erng w hw).mpr ⟨bw1, bw2⟩
    have e8 : (S8 ++ [rs.map rowD]).set S5.length (rs.map rowD ++ [rowD (v, w)]) = S8 ++ [(rs ++ [(v, w)]).map rowD] := by
      rw [← hl8, set_at1, List.map_append]; rfl
    rw [show (S8 ++ [rs.map rowD]).set S5.length (rs.map rowD ++ [D.tup [fr v, fr w, .tup [fr (rng (wp P0 one v) two).1, fr (rng (wp P0 one v) two).2]]]) = _ from e8]
    have gl9 : (S8 ++ [(rs ++ [(v, w)]).map rowD])[S5.length]? = some ((rs ++ [(v, w)]).map rowD) := by rw [← hl8]; exact get_at1 _ _
    have last : atI ((rs ++ [(v, w)]).map rowD) (-1) = some (rowD (v, w)) := by
      unfold atI
      rw [show ixN ((rs ++ [(v, w)]).map rowD).length (-1) = some rs.length from by unfold ixN; simp; omega]
      show ((rs ++ [(v, w)]).map rowD)[rs.length]? = _
      rw [List.map_append, List.getElem?_append_right (by simp)]
      simp
    refine ok_ gl9 (ok_ last ?_)
    refine ⟨rfl, wp P0 one v, two, w, rfl, by rw [wp_len n1]; omega, fun p hp => (z1.sz p hp).1.bd (by omega), h2s.bd (by omega), ?_⟩
    refine ⟨rfl, ptsD (wp (wp P0 one v) two w), wp (wp P0 one v) two w, 3, 232000, rfl, rfl, zw w hw (sw.mono (by omega)), ?_⟩
    rw [tw]
    refine ⟨S8, _, rs ++ [(v, w)], _, _, _, _, _, _, rfl, hl8, hp8, by omega, by simp; omega, fun r hr => ?_, rfl⟩
    rcases List.mem_append.mp hr with hr | hr
    · exact hgood r hr
    · rw [List.mem_singleton] at hr; subst hr
      exact ⟨hv, sv.mono (by omega), tv, hw, sw.mono (by omega), tw⟩
  · rintro _ _ ⟨S6, k, rs, y10, y11, y12, y13, y14, y15, rfl, hl6, hp6, hk, hrl, hgood, rfl⟩
    obtain ⟨r1, r2, rfl⟩ : ∃ r1 r2, rs = [r1, r2] := by
      match rs, hrl with
      | [a, b], _ => exact ⟨a, b, rfl⟩
    have gl : (S6 ++ [[r1, r2].map rowD])[S5.length]? = some [rowD r1, rowD r2] := by rw [← hl6]; exact get_at1 _ _
    obtain ⟨v1, s1, t1, w1, u1, q1⟩ := hgood r1 (by simp)
    obtain ⟨v2, s2, t2, w2, u2, q2⟩ := hgood r2 (by simp)
    have sh : Sz 2 (1 / 2) := by unfold Sz; decide +kernel
    have c1 : ∀ st, seqD st (rowD r1) = some [fr r1.1, fr r1.2, .tup [fr (rng (wp P0 one r1.1) two).1, fr (rng (wp P0 one r1.1) two).2]] := fun _ => rfl
    have c2 : ∀ st, seqD st (rowD r2) = some [fr r2.1, fr r2.2, .tup [fr (rng (wp P0 one r2.1) two).1, fr (rng (wp P0 one r2.1) two).2]] := fun _ => rfl
    rw [show [r1, r2].map rowD = [rowD r1, rowD r2] from rfl]
    have gl : (S6 ++ [[rowD r1, rowD r2]])[S5.length]? = some [rowD r1, rowD r2] := gl
    have hkeep : keepD (.ref S5.length) [rowD r1, rowD r2] (S6 ++ [[rowD r1, rowD r2]]) := gl
    generalize hD1 : rowD r1 = D1 at c1 gl hkeep ⊢
    generalize hD2 : rowD r2 = D2 at c2 gl hkeep ⊢
    obtain ⟨a1, b1, ⟨ml1, mh1, mle1, mr1⟩, sa1, sa2, _⟩ := rowOk r1.1 v1 (s1.mono (by omega)) t1
    obtain ⟨a2, b2, ⟨ml2, mh2, mle2, mr2⟩, sb1, sb2, _⟩ := rowOk r2.1 v2 (s2.mono (by omega)) t2
    refine ok_ gl (ok_ (atI_nat (j := 0) rfl) (ok_ (c1 _) (ok_ (atI_nat (j := 0) rfl) (ok_ gl (ok_ (atI_nat (j := 1) rfl) (ok_ (c2 _) (ok_ (atI_nat (j := 0) rfl) ?_)))))))
    refine ⟨rfl, _, _, rfl, s1.bd (by omega), s2.bd (by omega), le2, rfl, _, 1 / 2, half_arg _, (s1.add s2).bd (by omega), sh.bd (by omega), ?_⟩
    refine ok_ gl (ok_ (atI_nat (j := 0) rfl) (ok_ (c1 _) (ok_ (atI_nat (j := 1) rfl) (ok_ gl (ok_ (atI_nat (j := 1) rfl) (ok_ (c2 _) (ok_ (atI_nat (j := 1) rfl) ?_)))))))
    refine ⟨rfl, _, _, rfl, u1.bd (by omega), u2.bd (by omega), le2, rfl, _, 1 / 2, half_arg _, (u1.add u2).bd (by omega), sh.bd (by omega), ?_⟩
    obtain ⟨lm, lo, tm⟩ := mean2 okP n1 n2 e12 h1 h2 v1 v2 w1 w2 q1 q2
    have sm1 := (s1.add s2).mul sh
    have sm2 := (u1.add u2).mul sh
    have hmean : ∀ {c1 c2 : Rat}, Lv c1 → Lv c2 → tell (wp (wp P0 one r1.1) two c1) = true → tell (wp (wp P0 one r2.1) two c2) = true → tell (wp (wp P0 one ((r1.1 + r2.1) * (1 / 2))) two ((c1 + c2) * (1 / 2))) = true ∧ Lv ((c1 + c2) * (1 / 2)) := fun l1 l2 q1 q2 => by
      obtain ⟨_, x1, x2⟩ := mean2 okP n1 n2 e12 h1 h2 v1 v2 l1 l2 q1 q2
      exact ⟨x2, x1⟩
    generalize (r1.1 + r2.1) * (1 / 2) = mid at lm tm sm1 hmean ⊢
    generalize (r1.2 + r2.2) * (1 / 2) = oth at lo tm sm2 ⊢
    have tmid : tell (wp P0 one mid) = true := by
      have x := tm
      have okm := wp_ok okP n1 h1 lm
      rw [wp_tell okm (wp_ne n1 n2 e12) h2 lo] at x
      exact (tell_sub (app_ok okm (wp_ne n1 n2 e12) h2 lo) x).2
    obtain ⟨zm, bm, ⟨pl, ph, ple, prng⟩, sp1, sp2, zw⟩ := rowOk mid lm (sm1.mono (by omega)) tmid
    refine ⟨rfl, P0, one, mid, by rw [← hd]; rfl, by omega, fun p hp => (hz.sz p hp).1.bd (by omega), h1s.bd (by omega), ?_⟩
    refine ⟨rfl, wp P0 one mid, two, oth, rfl, by rw [wp_len n1]; omega, fun p hp => (zm.sz p hp).1.bd (by omega), h2s.bd (by omega), ?_⟩
    refine ⟨rfl, ptsD (wp (wp P0 one mid) two oth), wp (wp P0 one mid) two oth, 3, 232000, rfl, rfl, zw oth lo (sm2.mono (by omega)), ?_⟩
    rw [tm]
    refine ⟨rfl, ptsD (wp P0 one mid), wp P0 one mid, 3, 2400, two, rfl, rfl, zm, by omega, h2.lv, h2s, tmid, ?_⟩
    refine ok_ gl (ok_ (atI_nat (j := 0) rfl) (ok_ (c1 _) (ok_ (atI_nat (j := 2) rfl) (ok_ gl (ok_ (atI_nat (j := 1) rfl) (ok_ (c2 _) (ok_ (atI_nat (j := 2) rfl) ?_)))))))
    have ta1 := (mr1 _ ml1).mpr ⟨Rat.le_refl, mle1⟩
    have ta2 := (mr1 _ mh1).mpr ⟨mle1, Rat.le_refl⟩
    have tb1 := (mr2 _ ml2).mpr ⟨Rat.le_refl, mle2⟩
    have tb2 := (mr2 _ mh2).mpr ⟨mle2, Rat.le_refl⟩
    obtain ⟨tl, ll⟩ := hmean ml1 ml2 ta1 tb1
    obtain ⟨th, lh⟩ := hmean mh1 mh2 ta2 tb2
    have al := (sa1.add sb1).mul sh
    have ah := (sa2.add sb2).mul sh
    refine ⟨rfl, _, _, rfl, sa1.bd (by omega), sb1.bd (by omega), le2, rfl, _, 1 / 2, half_arg _, (sa1.add sb1).bd (by omega), sh.bd (by omega), ?_⟩
    refine ok_ gl (ok_ (atI_nat (j := 0) rfl) (ok_ (c1 _) (ok_ (atI_nat (j := 2) rfl) (ok_ gl (ok_ (atI_nat (j := 1) rfl) (ok_ (c2 _) (ok_ (atI_nat (j := 2) rfl) ?_)))))))
    refine ⟨rfl, _, _, rfl, sa2.bd (by omega), sb2.bd (by omega), le2, rfl, _, 1 / 2, half_arg _, (sa2.add sb2).bd (by omega), sh.bd (by omega), ?_⟩
    refine ⟨rfl, _, _, rfl, al.bd (by omega), sp1.bd (by omega), ?_⟩
    refine iteN (by simpa [Rat.not_lt] using ((prng _ ll).mp tl).1) ?_
    refine ⟨rfl, _, _, rfl, sp2.bd (by omega), ah.bd (by omega), ?_⟩
    refine iteN (by simpa [Rat.not_lt] using ((prng _ lh).mp th).2) ?_
    obtain ⟨wl, wh, wle, wrng⟩ := rng1 okP n2 h2 tP
    obtain ⟨sw1, sw2⟩ := rng_sz hz tP h2.lv h2s
    have sw1 : Sz 385 (rng P0 two).1 := sw1.mono (by omega)
    have sw2 : Sz 385 (rng P0 two).2 := sw2.mono (by omega)
    refine ⟨rfl, d0, P0, 3, 40, two, rfl, hs0 _, hz, by omega, h2.lv, h2s, tP, ?_⟩
    have nar : ∀ {v w : Rat}, Lv v → Lv w → tell (wp (wp P0 one v) two w) = true → (rng P0 two).1 ≤ w ∧ w ≤ (rng P0 two).2 := fun hv hw t => (wrng _ hw).mp (narrower okP n1 n2 e12 h1 h2 hv hw t)
    refine ok_ gl ?_
    refine ⟨fun i e s => s = S6 ++ [[D1, D2]] ∧ ∃ z0 z1 z2 z4 z9 z10 z11 z12 z13 z14 z15 z16 z17 z18 z19 z20 z22 z23 z24 z25, e = [z0, z1, z2, some d0, z4, some (fr one), some (fr two), some (fr (rng P0 one).1), some (fr (rng P0 one).2), z9, z10, z11, z12, z13, z14, z15, z16, z17, z18, z19, z20, some (.tup [fr (rng P0 two).1, fr (rng P0 two).2]), z22, z23, z24, z25],
      ⟨rfl, _, _, _, _, _, _, _, _, _, _, _, _, _, _, _, _, _, _, _, _, rfl⟩, ?_, ?_, ?_⟩
    · rintro i e s ⟨rfl, _⟩; exact hkeep
    · rintro i y _ _ hy ⟨rfl, z0, z1, z2, z4, z9, z10, z11, z12, z13, z14, z15, z16, z17, z18, z19, z20, z22, z23, z24, z25, rfl⟩
      obtain ⟨r, rfl, x1, x2, x3, x4⟩ : ∃ r : Rat × Rat, rowD r = y ∧ Sz 38601 (rng (wp P0 one r.1) two).1 ∧ Sz 38601 (rng (wp P0 one r.1) two).2 ∧ (rng P0 two).1 ≤ (rng (wp P0 one r.1) two).1 ∧ (rng (wp P0 one r.1) two).2 ≤ (rng P0 two).2 := by
        have hy : [D1, D2][i]? = some y := hy
        match i, hy with
        | 0, hy => exact ⟨r1, by rw [hD1]; cases hy; rfl, sa1, sa2, (nar v1 ml1 ta1).1, (nar v1 mh1 ta2).2⟩
        | 1, hy => exact ⟨r2, by rw [hD2]; cases hy; rfl, sb1, sb2, (nar v2 ml2 tb1).1, (nar v2 mh2 tb2).2⟩
        | n + 2, hy => cases hy
      refine ⟨rfl, rfl, _, _, rfl, x1.bd (by omega), sw1.bd (by omega), ?_⟩
      refine iteN (by simpa [Rat.not_lt] using x3) ?_
      refine ⟨rfl, _, _, rfl, sw2.bd (by omega), x2.bd (by omega), ?_⟩
      refine iteN (by simpa [Rat.not_lt] using x4) ?_
      exact ⟨rfl, _, _, _, _, _, _, _, _, _, _, _, _, _, _, _, _, _, _, _, _, rfl⟩
    · rintro _ _ ⟨rfl, z0, z1, z2, z4, z9, z10, z11, z12, z13, z14, z15, z16, z17, z18, z19, z20, z22, z23, z24, z25, rfl⟩
      refine ⟨by omega, fun i e s => ∃ z0 z1 z2 z4 z9 z10 z11 z12 z13 z14 z15 z16 z17 z18 z19 z20 z21 z22 z23 z24 z25, e = [z0, z1, z2, some d0, z4, some (fr one), some (fr two), some (fr (rng P0 one).1), some (fr (rng P0 one).2), z9, z10, z11, z12, z13, z14, z15, z16, z17, z18, z19, z20, z21, z22, z23, z24, z25],
        ⟨_, _, _, _, _, _, _, _, _, _, _, _, _, _, _, _, _, _, _, _, _, rfl⟩, fun _ _ _ _ => trivial, ?_, ?_⟩
      · rintro i x _ st' hx ⟨z0, z1, z2, z4, z9, z10, z11, z12, z13, z14, z15, z16, z17, z18, z19, z20, z21, z22, z23, z24, z25, rfl⟩
        obtain ⟨hi, rfl⟩ := intsFrom_get hx
        have hi : i < 2 := hi
        obtain ⟨v, hv, he⟩ : ∃ v, atI [fr (rng P0 one).1, fr (rng P0 one).2] (0 + (i : Int)) = some (fr v) ∧ (v = (rng P0 one).1 ∨ v = (rng P0 one).2) := by
          have : i = 0 ∨ i = 1 := by omega
          rcases this with rfl | rfl
          · exact ⟨_, rfl, .inl rfl⟩
          · exact ⟨_, rfl, .inr rfl⟩
        obtain ⟨lv, tv, eq⟩ := edge okP n1 n2 e12 h1 h2 tP he
        have sv : Sz 385 v := by rcases he with rfl | rfl <;> assumption
        obtain ⟨zv, bv, _, sv1, sv2, _⟩ := rowOk v lv (sv.mono (by omega)) tv
        refine ⟨le2, ok_ hv ⟨rfl, P0, one, v, by rw [← hd]; rfl, by omega, fun p hp => (hz.sz p hp).1.bd (by omega), h1s.bd (by omega), ?_⟩⟩
        refine ⟨rfl, ptsD (wp P0 one v), wp P0 one v, 3, 2400, two, rfl, rfl, zv, by omega, h2.lv, h2s, tv, ?_⟩
        rw [eq]
        show (if (!PyData.eqv (pyR (rng (wp P0 one v) two).2) (pyR (rng (wp P0 one v) two).2)) = true then _ else _)
        rw [eqv_fr]
        refine iteN (by simp) ?_
        exact ⟨_, _, _, _, _, _, _, _, _, _, _, _, _, _, _, _, _, _, _, _, _, rfl⟩
      · rintro _ _ ⟨z0, z1, z2, z4, z9, z10, z11, z12, z13, z14, z15, z16, z17, z18, z19, z20, z21, z22, z23, z24, z25, rfl⟩
        exact ret0 (hP _)
end DL

namespace DL
open PySem PySem.Spec PyProof.Rows L2 C8
def topS (i : Nat) : Stmt := PySem.Challenge.pw_withinone_k52_whole_middles_of_what_can.main.body.getD i (.Pass ⟨0, 0, 0, 0⟩)
abbrev s_is_whole : Stmt := topS 7
abbrev N_is_whole : List Str := ["value"]
theorem sc_is_whole : FnScope N_is_whole ["value"] (fnScope s_is_whole) := fnScope_by (by decide +kernel)
abbrev s_common : Stmt := topS 8
abbrev N_common : List Str := ["a", "b"]
theorem sc_common : FnScope N_common ["a", "b"] (fnScope s_common) := fnScope_by (by decide +kernel)
abbrev s_fraction : Stmt := topS 9
abbrev N_fraction : List Str := ["p", "q", "size"]
theorem sc_fraction : FnScope N_fraction ["p", "q"] (fnScope s_fraction) := fnScope_by (by decide +kernel)
abbrev s_is_fraction : Stmt := topS 10
abbrev N_is_fraction : List Str := ["value"]
theorem sc_is_fraction : FnScope N_is_fraction ["value"] (fnScope s_is_fraction) := fnScope_by (by decide +kernel)
abbrev s_plus : Stmt := topS 11
abbrev N_plus : List Str := ["one", "two"]
theorem sc_plus : FnScope N_plus ["one", "two"] (fnScope s_plus) := fnScope_by (by decide +kernel)
abbrev s_minus : Stmt := topS 12
abbrev N_minus : List Str := ["one", "two"]
theorem sc_minus : FnScope N_minus ["one", "two"] (fnScope s_minus) := fnScope_by (by decide +kernel)
abbrev s_times : Stmt := topS 13
abbrev N_times : List Str := ["one", "two"]
theorem sc_times : FnScope N_times ["one", "two"] (fnScope s_times) := fnScope_by (by decide +kernel)
abbrev s_over : Stmt := topS 14
abbrev N_over : List Str := ["one", "two"]
theorem sc_over : FnScope N_over ["one", "two"] (fnScope s_over) := fnScope_by (by decide +kernel)
abbrev s_less : Stmt := topS 15
abbrev N_less : List Str := ["one", "two"]
theorem sc_less : FnScope N_less ["one", "two"] (fnScope s_less) := fnScope_by (by decide +kernel)
abbrev s_is_level : Stmt := topS 16
abbrev N_is_level : List Str := ["value"]
theorem sc_is_level : FnScope N_is_level ["value"] (fnScope s_is_level) := fnScope_by (by decide +kernel)
abbrev s_turn : Stmt := topS 17
abbrev N_turn : List Str := ["place", "x"]
theorem sc_turn : FnScope N_turn ["place", "x"] (fnScope s_turn) := fnScope_by (by decide +kernel)
abbrev s_lifted : Stmt := topS 19
abbrev N_lifted : List Str := ["level", "turned"]
theorem sc_lifted : FnScope N_lifted ["level", "turned"] (fnScope s_lifted) := fnScope_by (by decide +kernel)
abbrev s_lowered : Stmt := topS 20
abbrev N_lowered : List Str := ["level", "value"]
theorem sc_lowered : FnScope N_lowered ["level", "value"] (fnScope s_lowered) := fnScope_by (by decide +kernel)
abbrev s_value_on : Stmt := topS 21
abbrev N_value_on : List Str := ["ladder", "x", "found", "place", "level"]
theorem sc_value_on : FnScope N_value_on ["ladder", "x"] (fnScope s_value_on) := fnScope_by (by decide +kernel)
abbrev s_is_full : Stmt := topS 22
abbrev N_is_full : List Str := ["ladder"]
theorem sc_is_full : FnScope N_is_full ["ladder"] (fnScope s_is_full) := fnScope_by (by decide +kernel)
abbrev s_ladder_of : Stmt := topS 24
abbrev N_ladder_of : List Str := ["points", "steps", "left", "place", "level", "rest", "other", "value", "here", "_"]
theorem sc_ladder_of : FnScope N_ladder_of ["points"] (fnScope s_ladder_of) := fnScope_by (by decide +kernel)
def cs_ladder_of_1 : Scope := { kind := PySem.ScopeKind.function, names := [ (PySem.Str.ofString ".0", PySem.NameKind.local), (PySem.Str.ofString "_", PySem.NameKind.local), (PySem.Str.ofString "value", PySem.NameKind.local), (PySem.Str.ofString "level", PySem.NameKind.free)], isGenerator := false, isCoroutine := false, more := [] : PySem.Scope }
abbrev s_can_be_told : Stmt := topS 25
abbrev N_can_be_told : List Str := ["points"]
theorem sc_can_be_told : FnScope N_can_be_told ["points"] (fnScope s_can_be_told) := fnScope_by (by decide +kernel)
abbrev s_ends_at : Stmt := topS 26
abbrev N_ends_at : List Str := ["points", "place", "found", "rows"]
theorem sc_ends_at : FnScope N_ends_at ["points", "place"] (fnScope s_ends_at) := fnScope_by (by decide +kernel)
abbrev s_range_at : Stmt := topS 27
abbrev N_range_at : List Str := ["points", "place", "low", "high"]
theorem sc_range_at : FnScope N_range_at ["points", "place"] (fnScope s_range_at) := fnScope_by (by decide +kernel)
abbrev s_with_point : Stmt := topS 28
abbrev N_with_point : List Str := ["points", "place", "level", "low", "row"]
theorem sc_with_point : FnScope N_with_point ["points", "place", "level"] (fnScope s_with_point) := fnScope_by (by decide +kernel)
def cs_with_point_1 : Scope := { kind := PySem.ScopeKind.function, names := [ (PySem.Str.ofString ".0", PySem.NameKind.local), (PySem.Str.ofString "row", PySem.NameKind.local), (PySem.Str.ofString "less", PySem.NameKind.globalImplicit), (PySem.Str.ofString "place", PySem.NameKind.free)], isGenerator := false, isCoroutine := false, more := [] : PySem.Scope }
def cs_with_point_2 : Scope := { kind := PySem.ScopeKind.function, names := [ (PySem.Str.ofString ".0", PySem.NameKind.local), (PySem.Str.ofString "row", PySem.NameKind.local), (PySem.Str.ofString "less", PySem.NameKind.globalImplicit), (PySem.Str.ofString "place", PySem.NameKind.free)], isGenerator := false, isCoroutine := false, more := [] : PySem.Scope }
abbrev s_Lpool : Stmt := topS 30
abbrev N_Lpool : List Str := ["script", "salt", "cell"]
theorem sc_Lpool : FnScope N_Lpool ["script"] (fnScope s_Lpool) := fnScope_by (by decide +kernel)
abbrev s_Lspread : Stmt := topS 31
abbrev N_Lspread : List Str := ["cell", "blended", "whole_sum", "k"]
theorem sc_Lspread : FnScope N_Lspread ["cell"] (fnScope s_Lspread) := fnScope_by (by decide +kernel)
abbrev s_Ldraw : Stmt := topS 32
abbrev N_Ldraw : List Str := ["pool", "many", "cell", "blended", "value"]
theorem sc_Ldraw : FnScope N_Ldraw ["pool", "many"] (fnScope s_Ldraw) := fnScope_by (by decide +kernel)
abbrev s_Lgcd : Stmt := topS 33
abbrev N_Lgcd : List Str := ["a", "b"]
theorem sc_Lgcd : FnScope N_Lgcd ["a", "b"] (fnScope s_Lgcd) := fnScope_by (by decide +kernel)
abbrev s_Lf : Stmt := topS 34
abbrev N_Lf : List Str := ["a", "d", "size"]
theorem sc_Lf : FnScope N_Lf ["a", "d"] (fnScope s_Lf) := fnScope_by (by decide +kernel)
abbrev s_Ladd : Stmt := topS 35
abbrev N_Ladd : List Str := ["x", "y"]
theorem sc_Ladd : FnScope N_Ladd ["x", "y"] (fnScope s_Ladd) := fnScope_by (by decide +kernel)
abbrev s_Lsub : Stmt := topS 36
abbrev N_Lsub : List Str := ["x", "y"]
theorem sc_Lsub : FnScope N_Lsub ["x", "y"] (fnScope s_Lsub) := fnScope_by (by decide +kernel)
abbrev s_Lmul : Stmt := topS 37
abbrev N_Lmul : List Str := ["x", "y"]
theorem sc_Lmul : FnScope N_Lmul ["x", "y"] (fnScope s_Lmul) := fnScope_by (by decide +kernel)
abbrev s_Ldiv : Stmt := topS 38
abbrev N_Ldiv : List Str := ["x", "y"]
theorem sc_Ldiv : FnScope N_Ldiv ["x", "y"] (fnScope s_Ldiv) := fnScope_by (by decide +kernel)
abbrev s_Lless : Stmt := topS 39
abbrev N_Lless : List Str := ["x", "y"]
theorem sc_Lless : FnScope N_Lless ["x", "y"] (fnScope s_Lless) := fnScope_by (by decide +kernel)
abbrev s_Lplace : Stmt := topS 40
abbrev N_Lplace : List Str := ["pool", "d"]
theorem sc_Lplace : FnScope N_Lplace ["pool"] (fnScope s_Lplace) := fnScope_by (by decide +kernel)
abbrev s_Llevel : Stmt := topS 41
abbrev N_Llevel : List Str := ["pool", "d"]
theorem sc_Llevel : FnScope N_Llevel ["pool"] (fnScope s_Llevel) := fnScope_by (by decide +kernel)
abbrev s_Lplaces : Stmt := topS 42
abbrev N_Lplaces : List Str := ["pool", "most", "found", "k", "place", "j"]
theorem sc_Lplaces : FnScope N_Lplaces ["pool", "most"] (fnScope s_Lplaces) := fnScope_by (by decide +kernel)
abbrev s_Lladder : Stmt := topS 43
abbrev N_Lladder : List Str := ["pool", "most", "steps", "last", "k"]
theorem sc_Lladder : FnScope N_Lladder ["pool", "most"] (fnScope s_Lladder) := fnScope_by (by decide +kernel)
def cs_Lladder_1 : Scope := { kind := PySem.ScopeKind.function, names := [ (PySem.Str.ofString ".0", PySem.NameKind.local), (PySem.Str.ofString "k", PySem.NameKind.local), (PySem.Str.ofString "_law_place", PySem.NameKind.globalImplicit), (PySem.Str.ofString "pool", PySem.NameKind.free)], isGenerator := false, isCoroutine := false, more := [] : PySem.Scope }
abbrev s_Lswing : Stmt := topS 44
abbrev N_Lswing : List Str := ["place", "x"]
theorem sc_Lswing : FnScope N_Lswing ["place", "x"] (fnScope s_Lswing) := fnScope_by (by decide +kernel)
abbrev s_Llift : Stmt := topS 45
abbrev N_Llift : List Str := ["level", "t"]
theorem sc_Llift : FnScope N_Llift ["level", "t"] (fnScope s_Llift) := fnScope_by (by decide +kernel)
abbrev s_Lon : Stmt := topS 46
abbrev N_Lon : List Str := ["ladder", "x", "found", "place", "level"]
theorem sc_Lon : FnScope N_Lon ["ladder", "x"] (fnScope s_Lon) := fnScope_by (by decide +kernel)
abbrev s_law : Stmt := topS 47
abbrev N_law : List Str := ["script", "pool", "ladder", "points", "known", "one", "two", "low", "high", "rows", "k", "share", "level", "more", "ends", "part", "middle", "other", "half", "low_mean", "high_mean", "wide", "seen", "stretch", "edge", "place"]
theorem sc_law : FnScope N_law ["script"] (fnScope s_law) := fnScope_by (by decide +kernel)
def cs_law_1 : Scope := { kind := PySem.ScopeKind.function, names := [ (PySem.Str.ofString ".0", PySem.NameKind.local), (PySem.Str.ofString "place", PySem.NameKind.local), (PySem.Str.ofString "level", PySem.NameKind.local)], isGenerator := false, isCoroutine := false, more := [] : PySem.Scope }
def cs_law_2 : Scope := { kind := PySem.ScopeKind.function, names := [ (PySem.Str.ofString ".0", PySem.NameKind.local), (PySem.Str.ofString "place", PySem.NameKind.local), (PySem.Str.ofString "_law_on", PySem.NameKind.globalImplicit), (PySem.Str.ofString "ladder", PySem.NameKind.free)], isGenerator := false, isCoroutine := false, more := [] : PySem.Scope }

section
variable {P : Program} {w : World} {K : PySem.W.Frag} {mg : Str → Option Value} {base : Heap}
theorem ok_is_whole {f : Addr} {fd : FuncData} (F : Def K mg "is_whole" s_is_whole f fd) (b : Binds K fd ["value"] []) (m_bool : mg "bool" = none) (m_int : mg "int" = none) (m_isinstance : mg "isinstance" = none) : DCal P w K mg base 34 "is_whole" 1 sp_is_whole :=
  have nd : (N_is_whole).Nodup := sc_is_whole.nd
  d_fun (t := b_is_whole) F b sc_is_whole rfl (fun cdv A outer s H E hr => (d_ssone (d_ret (d_andV (d_blt call_isi im_isi (by rfl) m_isinstance bt_isinstance (d_cons (dv 0) (d_cons (d_type (by rfl) m_int bt_int) d_nil))) (d_one (d_notV (d_blt call_isi im_isi (by rfl) m_isinstance bt_isinstance (d_cons (dv 0) (d_cons (d_type (by rfl) m_bool bt_bool) d_nil))))))))) v_is_whole
theorem ok_common {f : Addr} {fd : FuncData} (F : Def K mg "common" s_common f fd) (b : Binds K fd ["a", "b"] []) (m_abs : mg "abs" = none) : DCal P w K mg base 34 "common" 2 sp_common :=
  have nd : (N_common).Nodup := sc_common.nd
  d_fun (t := b_common) F b sc_common rfl (fun cdv A outer s H E hr => (d_sscons (d_par (i := 0) (j := 1) rfl nd rfl rfl (by decide) rfl rfl (d_cons (d_blt call_abs im_abs (by rfl) m_abs bt_abs (d_cons (dv 0) d_nil)) (d_cons (d_blt call_abs im_abs (by rfl) m_abs bt_abs (d_cons (dv 1) d_nil)) d_nil)) (by rfl)) (d_sscons (d_while PassesOwn.never (d_ptCmp op_gt im_cmp (dv 1) d_int (nomark _)) (d_ssone (d_par (i := 0) (j := 1) rfl nd rfl rfl (by decide) rfl rfl (d_cons (dv 1) (d_cons (d_op op_modN im_mod (dv 0) (dv 1)) d_nil)) (by rfl)))) (d_ssone (d_ret (dv 0)))))) v_common
theorem ok_fraction {f : Addr} {fd : FuncData} (F : Def K mg "fraction" s_fraction f fd) (b : Binds K fd ["p", "q"] []) (h_common : DCal P w K mg base 34 "common" 2 sp_common) (hS : base.NoSeer) (hT : P.given.tree = none) : DCal P w K mg base 35 "fraction" 2 sp_fraction :=
  have nd : (N_fraction).Nodup := sc_fraction.nd
  d_fun (t := b_fraction) F b sc_fraction rfl (fun cdv A outer s H E hr => (d_sscons (d_if (d_ptCmp (op_eqD (Room.units hr)) im_eq (dv 1) d_int (nomark _)) (d_ssone d_never) d_ssnil) (d_sscons (d_set (i := 2) nd rfl (.inl rfl) (d_ifE (d_ptCmp op_gt im_cmp (dv 1) d_int (nomark _)) (d_call h_common hr (by decide) (by rfl) (d_cons (dv 0) (d_cons (dv 1) d_nil))) (d_un un_neg im_neg (d_call h_common hr (by decide) (by rfl) (d_cons (dv 0) (d_cons (dv 1) d_nil)))))) (d_ssone (d_ret (d_tup (d_cons (d_op (op_fdivX (pyl_of hS hT hr (by decide) ⟨_, _, rfl, rfl, rfl, rfl, rfl⟩)) im_fdivX (dv 0) (dv 2)) (d_cons (d_op (op_fdivX (pyl_of hS hT hr (by decide) ⟨_, _, rfl, rfl, rfl, rfl, rfl⟩)) im_fdivX (dv 1) (dv 2)) d_nil)))))))) v_fraction
theorem ok_is_fraction {f : Addr} {fd : FuncData} (F : Def K mg "is_fraction" s_is_fraction f fd) (b : Binds K fd ["value"] []) (h_common : DCal P w K mg base 34 "common" 2 sp_common) (h_is_whole : DCal P w K mg base 34 "is_whole" 1 sp_is_whole) (m_isinstance : mg "isinstance" = none) (m_len : mg "len" = none) (m_tuple : mg "tuple" = none) : DCal P w K mg base 35 "is_fraction" 1 sp_is_fraction :=
  have nd : (N_is_fraction).Nodup := sc_is_fraction.nd
  d_fun (t := b_is_fraction) F b sc_is_fraction rfl (fun cdv A outer s H E hr => (d_sscons (d_if (PW.pt (d_or (d_not (d_ptVal (d_blt call_isi im_isi (by rfl) m_isinstance bt_isinstance (d_cons (dv 0) (d_cons (d_type (by rfl) m_tuple bt_tuple) d_nil))))) (d_or (d_ptCmp (op_neD (Room.units hr)) im_ne (d_blt cr_len im_len (by rfl) m_len bt_len (d_cons (dv 0) d_nil)) d_int (nomark _)) (d_or (d_not (d_ptVal (d_call h_is_whole hr (by decide) (by rfl) (d_cons (d_ix ix_D im_ix (dv 0) d_int (fun _ _ => rfl)) d_nil)))) (d_or1 (d_not (d_ptVal (d_call h_is_whole hr (by decide) (by rfl) (d_cons (d_ix ix_D im_ix (dv 0) d_int (fun _ _ => rfl)) d_nil))))))))) (d_ssone (d_ret d_bl)) d_ssnil) (d_ssone (d_ret (d_andV (d_cmpR op_gt im_cmp (d_ix ix_D im_ix (dv 0) d_int (fun _ _ => rfl)) d_int (nomark _)) (d_one (d_cmpR (op_eqD (Room.units hr)) im_eq (d_call h_common hr (by decide) (by rfl) (d_cons (d_ix ix_D im_ix (dv 0) d_int (fun _ _ => rfl)) (d_cons (d_ix ix_D im_ix (dv 0) d_int (fun _ _ => rfl)) d_nil))) d_int (nomark _)))))))) v_is_fraction
theorem ok_plus {f : Addr} {fd : FuncData} (F : Def K mg "plus" s_plus f fd) (b : Binds K fd ["one", "two"] []) (h_fraction : DCal P w K mg base 35 "fraction" 2 sp_fraction) : DCal P w K mg base 36 "plus" 2 sp_plus :=
  have nd : (N_plus).Nodup := sc_plus.nd
  d_fun (t := b_plus) F b sc_plus rfl (fun cdv A outer s H E hr => (d_ssone (d_ret (d_call h_fraction hr (by decide) (by rfl) (d_cons (d_op op_addD im_add (d_op op_mulD im_mul (d_ix ix_D im_ix (dv 0) d_int (fun _ _ => rfl)) (d_ix ix_D im_ix (dv 1) d_int (fun _ _ => rfl))) (d_op op_mulD im_mul (d_ix ix_D im_ix (dv 1) d_int (fun _ _ => rfl)) (d_ix ix_D im_ix (dv 0) d_int (fun _ _ => rfl)))) (d_cons (d_op op_mulD im_mul (d_ix ix_D im_ix (dv 0) d_int (fun _ _ => rfl)) (d_ix ix_D im_ix (dv 1) d_int (fun _ _ => rfl))) d_nil)))))) v_plus
theorem ok_minus {f : Addr} {fd : FuncData} (F : Def K mg "minus" s_minus f fd) (b : Binds K fd ["one", "two"] []) (h_fraction : DCal P w K mg base 35 "fraction" 2 sp_fraction) : DCal P w K mg base 36 "minus" 2 sp_minus :=
  have nd : (N_minus).Nodup := sc_minus.nd
  d_fun (t := b_minus) F b sc_minus rfl (fun cdv A outer s H E hr => (d_ssone (d_ret (d_call h_fraction hr (by decide) (by rfl) (d_cons (d_op op_sub im_sub (d_op op_mulD im_mul (d_ix ix_D im_ix (dv 0) d_int (fun _ _ => rfl)) (d_ix ix_D im_ix (dv 1) d_int (fun _ _ => rfl))) (d_op op_mulD im_mul (d_ix ix_D im_ix (dv 1) d_int (fun _ _ => rfl)) (d_ix ix_D im_ix (dv 0) d_int (fun _ _ => rfl)))) (d_cons (d_op op_mulD im_mul (d_ix ix_D im_ix (dv 0) d_int (fun _ _ => rfl)) (d_ix ix_D im_ix (dv 1) d_int (fun _ _ => rfl))) d_nil)))))) v_minus
theorem ok_times {f : Addr} {fd : FuncData} (F : Def K mg "times" s_times f fd) (b : Binds K fd ["one", "two"] []) (h_fraction : DCal P w K mg base 35 "fraction" 2 sp_fraction) : DCal P w K mg base 36 "times" 2 sp_times :=
  have nd : (N_times).Nodup := sc_times.nd
  d_fun (t := b_times) F b sc_times rfl (fun cdv A outer s H E hr => (d_ssone (d_ret (d_call h_fraction hr (by decide) (by rfl) (d_cons (d_op op_mulD im_mul (d_ix ix_D im_ix (dv 0) d_int (fun _ _ => rfl)) (d_ix ix_D im_ix (dv 1) d_int (fun _ _ => rfl))) (d_cons (d_op op_mulD im_mul (d_ix ix_D im_ix (dv 0) d_int (fun _ _ => rfl)) (d_ix ix_D im_ix (dv 1) d_int (fun _ _ => rfl))) d_nil)))))) v_times
theorem ok_over {f : Addr} {fd : FuncData} (F : Def K mg "over" s_over f fd) (b : Binds K fd ["one", "two"] []) (h_fraction : DCal P w K mg base 35 "fraction" 2 sp_fraction) : DCal P w K mg base 36 "over" 2 sp_over :=
  have nd : (N_over).Nodup := sc_over.nd
  d_fun (t := b_over) F b sc_over rfl (fun cdv A outer s H E hr => (d_ssone (d_ret (d_call h_fraction hr (by decide) (by rfl) (d_cons (d_op op_mulD im_mul (d_ix ix_D im_ix (dv 0) d_int (fun _ _ => rfl)) (d_ix ix_D im_ix (dv 1) d_int (fun _ _ => rfl))) (d_cons (d_op op_mulD im_mul (d_ix ix_D im_ix (dv 0) d_int (fun _ _ => rfl)) (d_ix ix_D im_ix (dv 1) d_int (fun _ _ => rfl))) d_nil)))))) v_over
theorem ok_less {f : Addr} {fd : FuncData} (F : Def K mg "less" s_less f fd) (b : Binds K fd ["one", "two"] [])  : DCal P w K mg base 34 "less" 2 sp_less :=
  have nd : (N_less).Nodup := sc_less.nd
  d_fun (t := b_less) F b sc_less rfl (fun cdv A outer s H E hr => (d_ssone (d_ret (d_cmpR op_lt im_cmp (d_op op_mulD im_mul (d_ix ix_D im_ix (dv 0) d_int (fun _ _ => rfl)) (d_ix ix_D im_ix (dv 1) d_int (fun _ _ => rfl))) (d_op op_mulD im_mul (d_ix ix_D im_ix (dv 1) d_int (fun _ _ => rfl)) (d_ix ix_D im_ix (dv 0) d_int (fun _ _ => rfl))) (nomark _))))) v_less
theorem ok_is_level {f : Addr} {fd : FuncData} (F : Def K mg "is_level" s_is_level f fd) (b : Binds K fd ["value"] []) (h_is_fraction : DCal P w K mg base 35 "is_fraction" 1 sp_is_fraction) : DCal P w K mg base 36 "is_level" 1 sp_is_level :=
  have nd : (N_is_level).Nodup := sc_is_level.nd
  d_fun (t := b_is_level) F b sc_is_level rfl (fun cdv A outer s H E hr => (d_ssone (d_ret (d_andV (d_call h_is_fraction hr (by decide) (by rfl) (d_cons (dv 0) d_nil)) (d_one (d_chain op_le op_le im_cmp im_cmp (d_un un_neg im_neg (d_ix ix_D im_ix (dv 0) d_int (fun _ _ => rfl))) (d_ix ix_D im_ix (dv 0) d_int (fun _ _ => rfl)) (d_ix ix_D im_ix (dv 0) d_int (fun _ _ => rfl)))))))) v_is_level
theorem ok_turn {f : Addr} {fd : FuncData} (F : Def K mg "turn" s_turn f fd) (b : Binds K fd ["place", "x"] []) (h_over : DCal P w K mg base 36 "over" 2 sp_over) (h_minus : DCal P w K mg base 36 "minus" 2 sp_minus) (h_times : DCal P w K mg base 36 "times" 2 sp_times) (g_ONE : Glo K mg "ONE" c_ONE) : DCal P w K mg base 37 "turn" 2 sp_turn :=
  have nd : (N_turn).Nodup := sc_turn.nd
  d_fun (t := b_turn) F b sc_turn rfl (fun cdv A outer s H E hr => (d_ssone (d_ret (d_call h_over hr (by decide) (by rfl) (d_cons (d_call h_minus hr (by decide) (by rfl) (d_cons (dv 1) (d_cons (dv 0) d_nil))) (d_cons (d_call h_minus hr (by decide) (by rfl) (d_cons (d_glob g_ONE (by rfl)) (d_cons (d_call h_times hr (by decide) (by rfl) (d_cons (dv 0) (d_cons (dv 1) d_nil))) d_nil))) d_nil)))))) v_turn
theorem ok_lifted {f : Addr} {fd : FuncData} (F : Def K mg "lifted" s_lifted f fd) (b : Binds K fd ["level", "turned"] []) (h_over : DCal P w K mg base 36 "over" 2 sp_over) (h_plus : DCal P w K mg base 36 "plus" 2 sp_plus) (h_times : DCal P w K mg base 36 "times" 2 sp_times) (g_ONE : Glo K mg "ONE" c_ONE) : DCal P w K mg base 37 "lifted" 2 sp_lifted :=
  have nd : (N_lifted).Nodup := sc_lifted.nd
  d_fun (t := b_lifted) F b sc_lifted rfl (fun cdv A outer s H E hr => (d_ssone (d_ret (d_call h_over hr (by decide) (by rfl) (d_cons (d_call h_plus hr (by decide) (by rfl) (d_cons (dv 0) (d_cons (dv 1) d_nil))) (d_cons (d_call h_plus hr (by decide) (by rfl) (d_cons (d_glob g_ONE (by rfl)) (d_cons (d_call h_times hr (by decide) (by rfl) (d_cons (dv 0) (d_cons (dv 1) d_nil))) d_nil))) d_nil)))))) v_lifted
theorem ok_lowered {f : Addr} {fd : FuncData} (F : Def K mg "lowered" s_lowered f fd) (b : Binds K fd ["level", "value"] []) (h_over : DCal P w K mg base 36 "over" 2 sp_over) (h_minus : DCal P w K mg base 36 "minus" 2 sp_minus) (h_times : DCal P w K mg base 36 "times" 2 sp_times) (g_ONE : Glo K mg "ONE" c_ONE) : DCal P w K mg base 37 "lowered" 2 sp_lowered :=
  have nd : (N_lowered).Nodup := sc_lowered.nd
  d_fun (t := b_lowered) F b sc_lowered rfl (fun cdv A outer s H E hr => (d_ssone (d_ret (d_call h_over hr (by decide) (by rfl) (d_cons (d_call h_minus hr (by decide) (by rfl) (d_cons (dv 1) (d_cons (dv 0) d_nil))) (d_cons (d_call h_minus hr (by decide) (by rfl) (d_cons (d_glob g_ONE (by rfl)) (d_cons (d_call h_times hr (by decide) (by rfl) (d_cons (dv 0) (d_cons (dv 1) d_nil))) d_nil))) d_nil)))))) v_lowered
theorem ok_value_on {f : Addr} {fd : FuncData} (F : Def K mg "value_on" s_value_on f fd) (b : Binds K fd ["ladder", "x"] []) (h_lifted : DCal P w K mg base 37 "lifted" 2 sp_lifted) (h_times : DCal P w K mg base 36 "times" 2 sp_times) (h_turn : DCal P w K mg base 37 "turn" 2 sp_turn) : DCal P w K mg base 38 "value_on" 2 sp_value_on :=
  have nd : (N_value_on).Nodup := sc_value_on.nd
  d_fun (t := b_value_on) F b sc_value_on rfl (fun cdv A outer s H E hr => (d_sscons (d_set (i := 2) nd rfl (.inl rfl) (d_ix ix_D im_ix (dv 0) d_int (fun _ _ => rfl))) (d_sscons (d_for PassesOwn.never rfl (d_iseq (d_revT (d_ix ix_D im_ix (dv 0) d_int (fun _ _ => rfl)))) (d_gtup rfl (d_gcons (d_gname (i := 3) nd rfl (.inl rfl)) (d_gcons (d_gname (i := 4) nd rfl (.inl rfl)) d_gnil))) (d_ssone (d_set (i := 2) nd rfl (.inl rfl) (d_call h_lifted hr (by decide) (by rfl) (d_cons (dv 4) (d_cons (d_call h_times hr (by decide) (by rfl) (d_cons (d_call h_turn hr (by decide) (by rfl) (d_cons (dv 3) (d_cons (dv 1) d_nil))) (d_cons (dv 2) d_nil))) d_nil)))))) (d_ssone (d_ret (dv 2)))))) v_value_on
theorem ok_is_full {f : Addr} {fd : FuncData} (F : Def K mg "is_full" s_is_full f fd) (b : Binds K fd ["ladder"] []) (g_ONE : Glo K mg "ONE" c_ONE) : DCal P w K mg base 34 "is_full" 1 sp_is_full :=
  have nd : (N_is_full).Nodup := sc_is_full.nd
  d_fun (t := b_is_full) F b sc_is_full rfl (fun cdv A outer s H E hr => (d_ssone (d_ret (d_cmpR (op_inA (Room.u65 hr)) im_in (d_ix ix_D im_ix (dv 0) d_int (fun _ _ => rfl)) (d_tup (d_cons (d_glob g_ONE (by rfl)) (d_cons (d_tup (d_cons (d_un un_neg im_neg d_int) (d_cons d_int d_nil))) d_nil))) (by rfl))))) v_is_full
theorem ok_ladder_of {f : Addr} {fd : FuncData} (F : Def K mg "ladder_of" s_ladder_of f fd) (b : Binds K fd ["points"] []) (h_is_level : DCal P w K mg base 36 "is_level" 1 sp_is_level) (h_over : DCal P w K mg base 36 "over" 2 sp_over) (h_turn : DCal P w K mg base 37 "turn" 2 sp_turn) (h_lowered : DCal P w K mg base 37 "lowered" 2 sp_lowered) (m_all : mg "all" = none) (m_len : mg "len" = none) (m_list : mg "list" = none) (m_tuple : mg "tuple" = none) (g_ONE : Glo K mg "ONE" c_ONE) (g_ZERO : Glo K mg "ZERO" c_ZERO) : DCal P w K mg base 38 "ladder_of" 1 sp_ladder_of :=
  have nd : (N_ladder_of).Nodup := sc_ladder_of.nd
  d_fun (t := b_ladder_of) F b sc_ladder_of rfl (fun cdv A outer s H E hr => (d_sscons (d_set (i := 1) nd rfl (.inl rfl) (d_lst d_nil)) (d_sscons (d_set (i := 2) nd rfl (.inl rfl) (d_bty call_list_of im_list (by rfl) m_list bt_list (d_cons (dv 0) d_nil))) (d_sscons (d_while PassesOwn.never (d_ptCmp op_gt im_cmp (d_blt cr_len im_len (by rfl) m_len bt_len (d_cons (dv 2) d_nil)) d_int (nomark _)) (d_sscons (d_asg (d_ix ix_D im_ix (dv 2) d_int (fun _ _ => rfl)) (d_gtup rfl (d_gcons (d_gname (i := 3) nd rfl (.inl rfl)) (d_gcons (d_gname (i := 4) nd rfl (.inr rfl)) d_gnil)))) (d_sscons (d_if (d_ptCmp (op_inA (Room.u65 hr)) im_in (dv 4) (d_tup (d_cons (d_glob g_ONE (by rfl)) (d_cons (d_tup (d_cons (d_un un_neg im_neg d_int) (d_cons d_int d_nil))) d_nil))) (by rfl)) (d_ssone (d_ret (d_ifE (d_ptVal (d_gc (d_blt (cr_all rfl) im_all (by rfl) m_all bt_all (d_cons (d_lc2 (by decide) rfl nd (d_iseq (dv 2)) (blkOk_by (N := N_ladder_of) (sc := (fnScope s_ladder_of)) (own := [("_", 9), ("value", 7)]) (by decide +kernel)) (fun _ _ _ _ _ => pg_tup rfl (pgs_cons (pg_name (i := 9) nd rfl (.inl rfl)) (pgs_cons (pg_name (i := 7) nd rfl (.inl rfl)) pgs_nil))) (fun _ _ _ _ _ => d_tsnil) (fun _ _ _ _ _ => (d_cmpR (op_eqD (Room.units hr)) im_eq (dv 7) (dv 4) (nomark _)))) d_nil)))) (d_tup (d_cons (d_bty call_tuple_of im_tuple (by rfl) m_tuple bt_tuple (d_cons (dv 1) d_nil)) (d_cons (dv 4) d_nil))) d_non))) d_ssnil) (d_sscons (d_expr (d_append (pe_bm PySem.F.plainAttrs_list PySem.F.slot_list_append PySem.F.type_list_append mt_append (dv 1) (d_cons (d_tup (d_cons (dv 3) (d_cons (dv 4) d_nil))) d_nil)))) (d_sscons (d_set (i := 5) nd rfl (.inl rfl) (d_lst d_nil)) (d_sscons (d_for PassesOwn.never rfl (d_iseq (d_sl sl_D im_sl (dv 2) (d_part d_int) d_noPart)) (d_gtup rfl (d_gcons (d_gname (i := 6) nd rfl (.inl rfl)) (d_gcons (d_gname (i := 7) nd rfl (.inl rfl)) d_gnil))) (d_sscons (d_set (i := 8) nd rfl (.inl rfl) (d_call h_over hr (by decide) (by rfl) (d_cons (d_call h_lowered hr (by decide) (by rfl) (d_cons (dv 4) (d_cons (dv 7) d_nil))) (d_cons (d_call h_turn hr (by decide) (by rfl) (d_cons (dv 3) (d_cons (dv 6) d_nil))) d_nil)))) (d_sscons (d_if (d_not (d_ptVal (d_call h_is_level hr (by decide) (by rfl) (d_cons (dv 8) d_nil)))) (d_ssone (d_ret d_non)) d_ssnil) (d_ssone (d_expr (d_append (pe_bm PySem.F.plainAttrs_list PySem.F.slot_list_append PySem.F.type_list_append mt_append (dv 5) (d_cons (d_tup (d_cons (dv 6) (d_cons (dv 8) d_nil))) d_nil)))))))) (d_ssone (d_set (i := 2) nd rfl (.inl rfl) (dv 5))))))))) (d_ssone (d_ret (d_tup (d_cons (d_bty call_tuple_of im_tuple (by rfl) m_tuple bt_tuple (d_cons (dv 1) d_nil)) (d_cons (d_glob g_ZERO (by rfl)) d_nil))))))))) v_ladder_of
theorem ok_can_be_told {f : Addr} {fd : FuncData} (F : Def K mg "can_be_told" s_can_be_told f fd) (b : Binds K fd ["points"] []) (h_ladder_of : DCal P w K mg base 38 "ladder_of" 1 sp_ladder_of) : DCal P w K mg base 39 "can_be_told" 1 sp_can_be_told :=
  have nd : (N_can_be_told).Nodup := sc_can_be_told.nd
  d_fun (t := b_can_be_told) F b sc_can_be_told rfl (fun cdv A outer s H E hr => (d_ssone (d_ret (d_cmpR op_isNotD im_isNot (d_call h_ladder_of hr (by decide) (by rfl) (d_cons (dv 0) d_nil)) d_non (nomark _))))) v_can_be_told
theorem ok_ends_at {f : Addr} {fd : FuncData} (F : Def K mg "ends_at" s_ends_at f fd) (b : Binds K fd ["points", "place"] []) (h_less : DCal P w K mg base 34 "less" 2 sp_less) (h_value_on : DCal P w K mg base 38 "value_on" 2 sp_value_on) (h_is_full : DCal P w K mg base 34 "is_full" 1 sp_is_full) (h_ladder_of : DCal P w K mg base 38 "ladder_of" 1 sp_ladder_of) (g_ONE : Glo K mg "ONE" c_ONE) : DCal P w K mg base 39 "ends_at" 2 sp_ends_at :=
  have nd : (N_ends_at).Nodup := sc_ends_at.nd
  d_fun (t := b_ends_at) F b sc_ends_at rfl (fun cdv A outer s H E hr => (d_sscons (d_set (i := 2) nd rfl (.inl rfl) (d_call h_ladder_of hr (by decide) (by rfl) (d_cons (dv 0) d_nil))) (d_sscons (d_if (d_ptCmp op_isD im_is (dv 2) d_non (nomark _)) (d_ssone d_never) d_ssnil) (d_sscons (d_if (d_ptVal (d_call h_is_full hr (by decide) (by rfl) (d_cons (dv 2) d_nil))) (d_ssone (d_ret (d_tup (d_cons (dv 2) (d_cons (dv 2) d_nil))))) d_ssnil) (d_sscons (d_set (i := 3) nd rfl (.inl rfl) (d_lst (d_cons (d_tup (d_cons (d_ix ix_D im_ix (dv 2) d_int (fun _ _ => rfl)) (d_cons (d_tup (d_cons (d_un un_neg im_neg d_int) (d_cons d_int d_nil))) d_nil))) (d_cons (d_tup (d_cons (d_ix ix_D im_ix (dv 2) d_int (fun _ _ => rfl)) (d_cons (d_glob g_ONE (by rfl)) d_nil))) d_nil)))) (d_sscons (d_if (d_ptVal (d_call h_less hr (by decide) (by rfl) (d_cons (d_call h_value_on hr (by decide) (by rfl) (d_cons (d_ix ix_D im_ix (dv 3) d_int (fun _ _ => rfl)) (d_cons (dv 1) d_nil))) (d_cons (d_call h_value_on hr (by decide) (by rfl) (d_cons (d_ix ix_D im_ix (dv 3) d_int (fun _ _ => rfl)) (d_cons (dv 1) d_nil))) d_nil)))) (d_ssone (d_ret (d_tup (d_cons (d_ix ix_D im_ix (dv 3) d_int (fun _ _ => rfl)) (d_cons (d_ix ix_D im_ix (dv 3) d_int (fun _ _ => rfl)) d_nil))))) d_ssnil) (d_ssone (d_ret (d_tup (d_cons (d_ix ix_D im_ix (dv 3) d_int (fun _ _ => rfl)) (d_cons (d_ix ix_D im_ix (dv 3) d_int (fun _ _ => rfl)) d_nil))))))))))) v_ends_at
theorem ok_range_at {f : Addr} {fd : FuncData} (F : Def K mg "range_at" s_range_at f fd) (b : Binds K fd ["points", "place"] []) (h_value_on : DCal P w K mg base 38 "value_on" 2 sp_value_on) (h_ends_at : DCal P w K mg base 39 "ends_at" 2 sp_ends_at) : DCal P w K mg base 40 "range_at" 2 sp_range_at :=
  have nd : (N_range_at).Nodup := sc_range_at.nd
  d_fun (t := b_range_at) F b sc_range_at rfl (fun cdv A outer s H E hr => (d_sscons (d_asg (d_call h_ends_at hr (by decide) (by rfl) (d_cons (dv 0) (d_cons (dv 1) d_nil))) (d_gtup rfl (d_gcons (d_gname (i := 2) nd rfl (.inl rfl)) (d_gcons (d_gname (i := 3) nd rfl (.inl rfl)) d_gnil)))) (d_ssone (d_ret (d_tup (d_cons (d_call h_value_on hr (by decide) (by rfl) (d_cons (dv 2) (d_cons (dv 1) d_nil))) (d_cons (d_call h_value_on hr (by decide) (by rfl) (d_cons (dv 3) (d_cons (dv 1) d_nil))) d_nil))))))) v_range_at
theorem ok_with_point {f : Addr} {fd : FuncData} (F : Def K mg "with_point" s_with_point f fd) (b : Binds K fd ["points", "place", "level"] []) (h_less : DCal P w K mg base 34 "less" 2 sp_less) (m_tuple : mg "tuple" = none) : DCal P w K mg base 35 "with_point" 3 sp_with_point :=
  have nd : (N_with_point).Nodup := sc_with_point.nd
  d_fun (t := b_with_point) F b sc_with_point rfl (fun cdv A outer s H E hr => (d_sscons (d_setLc1 (n := 3) rfl nd rfl rfl (sw_true rfl rfl rfl (by decide +kernel)) (d_iseq (dv 0)) (blkOk_by (N := N_with_point) (sc := (fnScope s_with_point)) (own := [("row", 4)]) (by decide +kernel)) (fun _ _ _ _ _ => pg_name (i := 4) nd rfl (.inl rfl)) (fun _ _ _ _ _ => (d_tsone (d_ptVal (d_call h_less hr (by decide) (by rfl) (d_cons (d_ix ix_D im_ix (dv 4) d_int (fun _ _ => rfl)) (d_cons (dv 1) d_nil)))))) (fun _ _ _ _ _ => (dv 4))) (d_ssone (d_ret (d_op op_addD im_add (d_op op_addD im_add (d_bty call_tuple_of im_tuple (by rfl) m_tuple bt_tuple (d_cons (dv 3) d_nil)) (d_tup (d_cons (d_tup (d_cons (dv 1) (d_cons (dv 2) d_nil))) d_nil))) (d_gc (d_bty call_tuple_of im_tuple (by rfl) m_tuple bt_tuple (d_cons (d_lc1 rfl nd (d_iseq (dv 0)) (blkOk_by (N := N_with_point) (sc := (fnScope s_with_point)) (own := [("row", 4)]) (by decide +kernel)) (fun _ _ _ _ _ => pg_name (i := 4) nd rfl (.inl rfl)) (fun _ _ _ _ _ => (d_tsone (d_ptVal (d_call h_less hr (by decide) (by rfl) (d_cons (dv 1) (d_cons (d_ix ix_D im_ix (dv 4) d_int (fun _ _ => rfl)) d_nil)))))) (fun _ _ _ _ _ => (dv 4))) d_nil)))))))) v_with_point
theorem ok_Lpool {f : Addr} {fd : FuncData} (F : Def K mg "_law_pool" s_Lpool f fd) (b : Binds K fd ["script"] []) (m_int : mg "int" = none) (m_list : mg "list" = none) : DCal P w K mg base 34 "_law_pool" 1 sp_Lpool :=
  have nd : (N_Lpool).Nodup := sc_Lpool.nd
  d_fun (t := b_Lpool) F b sc_Lpool rfl (fun cdv A outer s H E hr => (d_sscons (d_set (i := 1) nd rfl (.inl rfl) d_int) (d_sscons (d_for PassesOwn.never rfl (d_iseq (d_sl sl_D im_sl (dv 0) d_noPart (d_part d_int))) (d_gname (i := 2) nd rfl (.inl rfl)) (d_ssone (d_set (i := 1) nd rfl (.inl rfl) (d_op op_modN im_mod (d_bty call_int1 im_int (by rfl) m_int bt_int (d_cons (d_op op_addD im_add (d_op op_mulD im_mul (dv 1) d_int) (dv 2)) d_nil)) d_int)))) (d_ssone (d_ret (d_lst (d_cons (d_bty call_list_of im_list (by rfl) m_list bt_list (d_cons (dv 0) d_nil)) (d_cons d_int (d_cons d_int (d_cons d_int (d_cons (dv 1) d_nil))))))))))) v_Lpool
theorem ok_Lspread {f : Addr} {fd : FuncData} (F : Def K mg "_law_spread" s_Lspread f fd) (b : Binds K fd ["cell"] []) (m_int : mg "int" = none) (m_range : mg "range" = none) : DCal P w K mg base 34 "_law_spread" 1 sp_Lspread :=
  have nd : (N_Lspread).Nodup := sc_Lspread.nd
  d_fun (t := b_Lspread) F b sc_Lspread rfl (fun cdv A outer s H E hr => (d_sscons (d_set (i := 1) nd rfl (.inl rfl) (d_op op_modN im_mod (d_bty call_int1 im_int (by rfl) m_int bt_int (d_cons (dv 0) d_nil)) d_int)) (d_sscons (d_set (i := 2) nd rfl (.inl rfl) d_int) (d_sscons (d_for PassesOwn.never rfl (d_irng1 (by rfl) m_range (d_cons d_int d_nil)) (d_gname (i := 3) nd rfl (.inl rfl)) (d_sscons (d_set (i := 1) nd rfl (.inl rfl) (d_op op_modN im_mod (d_bty call_int1 im_int (by rfl) m_int bt_int (d_cons (d_op op_addD im_add (d_op op_addD im_add (d_op op_mulD im_mul (dv 1) d_int) d_int) (dv 3)) d_nil)) d_int)) (d_ssone (d_set (i := 2) nd rfl (.inl rfl) (d_op op_addD im_add (d_op op_mulD im_mul (dv 2) d_int) (dv 1)))))) (d_ssone (d_ret (dv 2))))))) v_Lspread
theorem ok_Ldraw {f : Addr} {fd : FuncData} (F : Def K mg "_law_draw" s_Ldraw f fd) (b : Binds K fd ["pool", "many"] []) (h_Lspread : DCal P w K mg base 34 "_law_spread" 1 sp_Lspread) (hS : base.NoSeer) (hT : P.given.tree = none) (m_int : mg "int" = none) (m_len : mg "len" = none) : DCal P w K mg base 35 "_law_draw" 2 sp_Ldraw :=
  have nd : (N_Ldraw).Nodup := sc_Ldraw.nd
  d_fun (t := b_Ldraw) F b sc_Ldraw rfl (fun cdv A outer s H E hr => (d_sscons (d_if (PW.pt (d_and (d_ptCmp op_le im_cmp (d_ix ix_D im_ix (dv 0) d_int (fun _ _ => rfl)) d_int (nomark _)) (d_and1 (d_ptCmp op_lt im_cmp (d_ix ix_D im_ix (dv 0) d_int (fun _ _ => rfl)) (d_blt cr_len im_len (by rfl) m_len bt_len (d_cons (d_ix ix_D im_ix (dv 0) d_int (fun _ _ => rfl)) d_nil)) (nomark _))))) (d_sscons (d_set (i := 2) nd rfl (.inl rfl) (d_ix ix_D im_ix (d_ix ix_D im_ix (dv 0) d_int (fun _ _ => rfl)) (d_ix ix_D im_ix (dv 0) d_int (fun _ _ => rfl)) (fun _ _ => rfl))) (d_sscons (d_asg (d_op op_addD im_add (d_ix ix_D im_ix (dv 0) d_int (fun _ _ => rfl)) d_int) (d_gsub (dv 0) d_int)) (d_sscons (d_asg (dv 2) (d_gsub (dv 0) d_int)) (d_ssone (d_if (d_ptCmp op_lt im_cmp (dv 2) d_int (nomark _)) (d_ssone (d_asg (d_call h_Lspread hr (by decide) (by rfl) (d_cons (dv 2) d_nil)) (d_gsub (dv 0) d_int))) d_ssnil))))) d_ssnil) (d_sscons (d_asg (d_op op_addD im_add (d_ix ix_D im_ix (dv 0) d_int (fun _ _ => rfl)) d_int) (d_gsub (dv 0) d_int)) (d_sscons (d_if (d_ptCmp op_le im_cmp (d_ix ix_D im_ix (dv 0) d_int (fun _ _ => rfl)) d_int (nomark _)) (d_sscons (d_set (i := 3) nd rfl (.inl rfl) (d_op op_modN im_mod (d_bty call_int1 im_int (by rfl) m_int bt_int (d_cons (d_op op_addD im_add (d_op op_addD im_add (d_op op_mulD im_mul (d_ix ix_D im_ix (dv 0) d_int (fun _ _ => rfl)) d_int) (d_op op_mulD im_mul (d_ix ix_D im_ix (dv 0) d_int (fun _ _ => rfl)) d_int)) d_int) d_nil)) d_int)) (d_sscons (d_set (i := 3) nd rfl (.inl rfl) (d_op op_modN im_mod (d_bty call_int1 im_int (by rfl) m_int bt_int (d_cons (d_op op_addD im_add (d_op op_mulD im_mul (dv 3) d_int) (d_ix ix_D im_ix (dv 0) d_int (fun _ _ => rfl))) d_nil)) d_int)) (d_ssone (d_ret (d_op op_modN im_mod (d_op (op_fdivX (pyl_of hS hT hr (by decide) ⟨_, _, rfl, rfl, rfl, rfl, rfl⟩)) im_fdivX (dv 3) d_int) (dv 1)))))) d_ssnil) (d_sscons (d_set (i := 4) nd rfl (.inl rfl) (d_op op_modN im_mod (d_bty call_int1 im_int (by rfl) m_int bt_int (d_cons (d_ix ix_D im_ix (dv 0) d_int (fun _ _ => rfl)) d_nil)) (dv 1))) (d_sscons (d_asg (d_op (op_fdivX (pyl_of hS hT hr (by decide) ⟨_, _, rfl, rfl, rfl, rfl, rfl⟩)) im_fdivX (d_ix ix_D im_ix (dv 0) d_int (fun _ _ => rfl)) (dv 1)) (d_gsub (dv 0) d_int)) (d_ssone (d_ret (dv 4))))))))) v_Ldraw
theorem ok_Lgcd {f : Addr} {fd : FuncData} (F : Def K mg "_law_gcd" s_Lgcd f fd) (b : Binds K fd ["a", "b"] []) (m_abs : mg "abs" = none) (m_int : mg "int" = none) : DCal P w K mg base 34 "_law_gcd" 2 sp_Lgcd :=
  have nd : (N_Lgcd).Nodup := sc_Lgcd.nd
  d_fun (t := b_Lgcd) F b sc_Lgcd rfl (fun cdv A outer s H E hr => (d_sscons (d_par (i := 0) (j := 1) rfl nd rfl rfl (by decide) rfl rfl (d_cons (d_blt call_abs im_abs (by rfl) m_abs bt_abs (d_cons (dv 0) d_nil)) (d_cons (d_blt call_abs im_abs (by rfl) m_abs bt_abs (d_cons (dv 1) d_nil)) d_nil)) (by rfl)) (d_sscons (d_while PassesOwn.never (d_ptCmp op_gt im_cmp (dv 1) d_int (nomark _)) (d_ssone (d_par (i := 0) (j := 1) rfl nd rfl rfl (by decide) rfl rfl (d_cons (dv 1) (d_cons (d_op op_modN im_mod (d_bty call_int1 im_int (by rfl) m_int bt_int (d_cons (dv 0) d_nil)) (dv 1)) d_nil)) (by rfl)))) (d_ssone (d_ret (dv 0)))))) v_Lgcd
theorem ok_Lf {f : Addr} {fd : FuncData} (F : Def K mg "_law_f" s_Lf f fd) (b : Binds K fd ["a", "d"] []) (h_Lgcd : DCal P w K mg base 34 "_law_gcd" 2 sp_Lgcd) (hS : base.NoSeer) (hT : P.given.tree = none) (m_max : mg "max" = none) : DCal P w K mg base 35 "_law_f" 2 sp_Lf :=
  have nd : (N_Lf).Nodup := sc_Lf.nd
  d_fun (t := b_Lf) F b sc_Lf rfl (fun cdv A outer s H E hr => (d_sscons (d_if (d_ptCmp op_lt im_cmp (dv 1) d_int (nomark _)) (d_ssone (d_par (i := 0) (j := 1) rfl nd rfl rfl (by decide) rfl rfl (d_cons (d_op op_sub im_sub d_int (dv 0)) (d_cons (d_op op_sub im_sub d_int (dv 1)) d_nil)) (by rfl))) d_ssnil) (d_sscons (d_set (i := 2) nd rfl (.inl rfl) (d_blt (call_max2 rfl) im_max (by rfl) m_max bt_max (d_cons d_int (d_cons (d_call h_Lgcd hr (by decide) (by rfl) (d_cons (dv 0) (d_cons (dv 1) d_nil))) d_nil)))) (d_ssone (d_ret (d_tup (d_cons (d_op (op_fdivX (pyl_of hS hT hr (by decide) ⟨_, _, rfl, rfl, rfl, rfl, rfl⟩)) im_fdivX (dv 0) (dv 2)) (d_cons (d_op (op_fdivX (pyl_of hS hT hr (by decide) ⟨_, _, rfl, rfl, rfl, rfl, rfl⟩)) im_fdivX (dv 1) (dv 2)) d_nil)))))))) v_Lf
theorem ok_Ladd {f : Addr} {fd : FuncData} (F : Def K mg "_law_add" s_Ladd f fd) (b : Binds K fd ["x", "y"] []) (h_Lf : DCal P w K mg base 35 "_law_f" 2 sp_Lf) : DCal P w K mg base 36 "_law_add" 2 sp_Ladd :=
  have nd : (N_Ladd).Nodup := sc_Ladd.nd
  d_fun (t := b_Ladd) F b sc_Ladd rfl (fun cdv A outer s H E hr => (d_ssone (d_ret (d_call h_Lf hr (by decide) (by rfl) (d_cons (d_op op_addD im_add (d_op op_mulD im_mul (d_ix ix_D im_ix (dv 0) d_int (fun _ _ => rfl)) (d_ix ix_D im_ix (dv 1) d_int (fun _ _ => rfl))) (d_op op_mulD im_mul (d_ix ix_D im_ix (dv 1) d_int (fun _ _ => rfl)) (d_ix ix_D im_ix (dv 0) d_int (fun _ _ => rfl)))) (d_cons (d_op op_mulD im_mul (d_ix ix_D im_ix (dv 0) d_int (fun _ _ => rfl)) (d_ix ix_D im_ix (dv 1) d_int (fun _ _ => rfl))) d_nil)))))) v_Ladd
theorem ok_Lsub {f : Addr} {fd : FuncData} (F : Def K mg "_law_sub" s_Lsub f fd) (b : Binds K fd ["x", "y"] []) (h_Lf : DCal P w K mg base 35 "_law_f" 2 sp_Lf) : DCal P w K mg base 36 "_law_sub" 2 sp_Lsub :=
  have nd : (N_Lsub).Nodup := sc_Lsub.nd
  d_fun (t := b_Lsub) F b sc_Lsub rfl (fun cdv A outer s H E hr => (d_ssone (d_ret (d_call h_Lf hr (by decide) (by rfl) (d_cons (d_op op_sub im_sub (d_op op_mulD im_mul (d_ix ix_D im_ix (dv 0) d_int (fun _ _ => rfl)) (d_ix ix_D im_ix (dv 1) d_int (fun _ _ => rfl))) (d_op op_mulD im_mul (d_ix ix_D im_ix (dv 1) d_int (fun _ _ => rfl)) (d_ix ix_D im_ix (dv 0) d_int (fun _ _ => rfl)))) (d_cons (d_op op_mulD im_mul (d_ix ix_D im_ix (dv 0) d_int (fun _ _ => rfl)) (d_ix ix_D im_ix (dv 1) d_int (fun _ _ => rfl))) d_nil)))))) v_Lsub
theorem ok_Lmul {f : Addr} {fd : FuncData} (F : Def K mg "_law_mul" s_Lmul f fd) (b : Binds K fd ["x", "y"] []) (h_Lf : DCal P w K mg base 35 "_law_f" 2 sp_Lf) : DCal P w K mg base 36 "_law_mul" 2 sp_Lmul :=
  have nd : (N_Lmul).Nodup := sc_Lmul.nd
  d_fun (t := b_Lmul) F b sc_Lmul rfl (fun cdv A outer s H E hr => (d_ssone (d_ret (d_call h_Lf hr (by decide) (by rfl) (d_cons (d_op op_mulD im_mul (d_ix ix_D im_ix (dv 0) d_int (fun _ _ => rfl)) (d_ix ix_D im_ix (dv 1) d_int (fun _ _ => rfl))) (d_cons (d_op op_mulD im_mul (d_ix ix_D im_ix (dv 0) d_int (fun _ _ => rfl)) (d_ix ix_D im_ix (dv 1) d_int (fun _ _ => rfl))) d_nil)))))) v_Lmul
theorem ok_Ldiv {f : Addr} {fd : FuncData} (F : Def K mg "_law_div" s_Ldiv f fd) (b : Binds K fd ["x", "y"] []) (h_Lf : DCal P w K mg base 35 "_law_f" 2 sp_Lf) : DCal P w K mg base 36 "_law_div" 2 sp_Ldiv :=
  have nd : (N_Ldiv).Nodup := sc_Ldiv.nd
  d_fun (t := b_Ldiv) F b sc_Ldiv rfl (fun cdv A outer s H E hr => (d_ssone (d_ret (d_call h_Lf hr (by decide) (by rfl) (d_cons (d_op op_mulD im_mul (d_ix ix_D im_ix (dv 0) d_int (fun _ _ => rfl)) (d_ix ix_D im_ix (dv 1) d_int (fun _ _ => rfl))) (d_cons (d_op op_mulD im_mul (d_ix ix_D im_ix (dv 0) d_int (fun _ _ => rfl)) (d_ix ix_D im_ix (dv 1) d_int (fun _ _ => rfl))) d_nil)))))) v_Ldiv
theorem ok_Lless {f : Addr} {fd : FuncData} (F : Def K mg "_law_less" s_Lless f fd) (b : Binds K fd ["x", "y"] [])  : DCal P w K mg base 34 "_law_less" 2 sp_Lless :=
  have nd : (N_Lless).Nodup := sc_Lless.nd
  d_fun (t := b_Lless) F b sc_Lless rfl (fun cdv A outer s H E hr => (d_ssone (d_ret (d_cmpR op_lt im_cmp (d_op op_mulD im_mul (d_ix ix_D im_ix (dv 0) d_int (fun _ _ => rfl)) (d_ix ix_D im_ix (dv 1) d_int (fun _ _ => rfl))) (d_op op_mulD im_mul (d_ix ix_D im_ix (dv 1) d_int (fun _ _ => rfl)) (d_ix ix_D im_ix (dv 0) d_int (fun _ _ => rfl))) (nomark _))))) v_Lless
theorem ok_Lplace {f : Addr} {fd : FuncData} (F : Def K mg "_law_place" s_Lplace f fd) (b : Binds K fd ["pool"] []) (h_Lf : DCal P w K mg base 35 "_law_f" 2 sp_Lf) (h_Ldraw : DCal P w K mg base 35 "_law_draw" 2 sp_Ldraw) : DCal P w K mg base 36 "_law_place" 1 sp_Lplace :=
  have nd : (N_Lplace).Nodup := sc_Lplace.nd
  d_fun (t := b_Lplace) F b sc_Lplace rfl (fun cdv A outer s H E hr => (d_sscons (d_set (i := 1) nd rfl (.inl rfl) (d_op op_addD im_add d_int (d_call h_Ldraw hr (by decide) (by rfl) (d_cons (dv 0) (d_cons d_int d_nil))))) (d_ssone (d_ret (d_call h_Lf hr (by decide) (by rfl) (d_cons (d_op op_addD im_add (d_op op_sub im_sub (d_call h_Ldraw hr (by decide) (by rfl) (d_cons (dv 0) (d_cons (d_op op_sub im_sub (d_op op_mulD im_mul d_int (dv 1)) d_int) d_nil))) (dv 1)) d_int) (d_cons (dv 1) d_nil))))))) v_Lplace
theorem ok_Llevel {f : Addr} {fd : FuncData} (F : Def K mg "_law_level" s_Llevel f fd) (b : Binds K fd ["pool"] []) (h_Lf : DCal P w K mg base 35 "_law_f" 2 sp_Lf) (h_Ldraw : DCal P w K mg base 35 "_law_draw" 2 sp_Ldraw) : DCal P w K mg base 36 "_law_level" 1 sp_Llevel :=
  have nd : (N_Llevel).Nodup := sc_Llevel.nd
  d_fun (t := b_Llevel) F b sc_Llevel rfl (fun cdv A outer s H E hr => (d_sscons (d_set (i := 1) nd rfl (.inl rfl) (d_op op_addD im_add d_int (d_call h_Ldraw hr (by decide) (by rfl) (d_cons (dv 0) (d_cons d_int d_nil))))) (d_ssone (d_ret (d_call h_Lf hr (by decide) (by rfl) (d_cons (d_op op_sub im_sub (d_call h_Ldraw hr (by decide) (by rfl) (d_cons (dv 0) (d_cons (d_op op_addD im_add (d_op op_mulD im_mul d_int (dv 1)) d_int) d_nil))) (dv 1)) (d_cons (dv 1) d_nil))))))) v_Llevel
theorem ok_Lplaces {f : Addr} {fd : FuncData} (F : Def K mg "_law_places" s_Lplaces f fd) (b : Binds K fd ["pool", "most"] []) (h_Lless : DCal P w K mg base 34 "_law_less" 2 sp_Lless) (h_Ldraw : DCal P w K mg base 35 "_law_draw" 2 sp_Ldraw) (h_Lplace : DCal P w K mg base 36 "_law_place" 1 sp_Lplace) (m_len : mg "len" = none) (m_range : mg "range" = none) : DCal P w K mg base 37 "_law_places" 2 sp_Lplaces :=
  have nd : (N_Lplaces).Nodup := sc_Lplaces.nd
  d_fun (t := b_Lplaces) F b sc_Lplaces rfl (fun cdv A outer s H E hr => (d_sscons (d_set (i := 2) nd rfl (.inl rfl) (d_lst d_nil)) (d_sscons (d_for PassesOwn.never rfl (d_irng1 (by rfl) m_range (d_cons (d_call h_Ldraw hr (by decide) (by rfl) (d_cons (dv 0) (d_cons (d_op op_addD im_add (dv 1) d_int) d_nil))) d_nil)) (d_gname (i := 3) nd rfl (.inl rfl)) (d_sscons (d_set (i := 4) nd rfl (.inl rfl) (d_call h_Lplace hr (by decide) (by rfl) (d_cons (dv 0) d_nil))) (d_ssone (d_if (d_ptCmp (op_notInA (Room.u65 hr)) im_in (dv 4) (dv 2) (by rfl)) (d_ssone (d_expr (d_append (pe_bm PySem.F.plainAttrs_list PySem.F.slot_list_append PySem.F.type_list_append mt_append (dv 2) (d_cons (dv 4) d_nil))))) d_ssnil)))) (d_sscons (d_for PassesOwn.never rfl (d_irng1 (by rfl) m_range (d_cons (d_blt cr_len im_len (by rfl) m_len bt_len (d_cons (dv 2) d_nil)) d_nil)) (d_gname (i := 5) nd rfl (.inl rfl)) (d_ssone (d_for PassesOwn.never rfl (d_irng1 (by rfl) m_range (d_cons (dv 5) d_nil)) (d_gname (i := 3) nd rfl (.inl rfl)) (d_ssone (d_if (d_ptVal (d_call h_Lless hr (by decide) (by rfl) (d_cons (d_ix ix_D im_ix (dv 2) (dv 5) (fun _ _ => rfl)) (d_cons (d_ix ix_D im_ix (dv 2) (dv 3) (fun _ _ => rfl)) d_nil)))) (d_ssone (d_asg (d_tup (d_cons (d_ix ix_D im_ix (dv 2) (dv 3) (fun _ _ => rfl)) (d_cons (d_ix ix_D im_ix (dv 2) (dv 5) (fun _ _ => rfl)) d_nil))) (d_gtup rfl (d_gcons (d_gsub (dv 2) (dv 5)) (d_gcons (d_gsub (dv 2) (dv 3)) d_gnil))))) d_ssnil))))) (d_ssone (d_ret (dv 2))))))) v_Lplaces
theorem ok_Lladder {f : Addr} {fd : FuncData} (F : Def K mg "_law_ladder" s_Lladder f fd) (b : Binds K fd ["pool", "most"] []) (h_Ldraw : DCal P w K mg base 35 "_law_draw" 2 sp_Ldraw) (h_Llevel : DCal P w K mg base 36 "_law_level" 1 sp_Llevel) (h_Lplace : DCal P w K mg base 36 "_law_place" 1 sp_Lplace) (m_range : mg "range" = none) (m_tuple : mg "tuple" = none) : DCal P w K mg base 37 "_law_ladder" 2 sp_Lladder :=
  have nd : (N_Lladder).Nodup := sc_Lladder.nd
  d_fun (t := b_Lladder) F b sc_Lladder rfl (fun cdv A outer s H E hr => (d_sscons (d_setLc1 (n := 2) rfl nd rfl rfl (sw_true rfl rfl rfl (by decide +kernel)) (d_irng1 (by rfl) m_range (d_cons (d_call h_Ldraw hr (by decide) (by rfl) (d_cons (dv 0) (d_cons (d_op op_addD im_add (dv 1) d_int) d_nil))) d_nil)) (blkOk_by (N := N_Lladder) (sc := (fnScope s_Lladder)) (own := [("k", 4)]) (by decide +kernel)) (fun _ _ _ _ _ => pg_name (i := 4) nd rfl (.inl rfl)) (fun _ _ _ _ _ => d_tsnil) (fun _ _ _ _ _ => (d_tup (d_cons (d_call h_Lplace hr (by decide) (by rfl) (d_cons (dv 0) d_nil)) (d_cons (d_call h_Lplace hr (by decide) (by rfl) (d_cons (dv 0) d_nil)) d_nil))))) (d_sscons (d_set (i := 3) nd rfl (.inl rfl) (d_ifE (d_ptCmp (op_eqD (Room.units hr)) im_eq (d_call h_Ldraw hr (by decide) (by rfl) (d_cons (dv 0) (d_cons d_int d_nil))) d_int (nomark _)) (d_tup (d_cons (d_op op_sub im_sub d_int (d_op op_mulD im_mul d_int (d_call h_Ldraw hr (by decide) (by rfl) (d_cons (dv 0) (d_cons d_int d_nil))))) (d_cons d_int d_nil))) (d_call h_Llevel hr (by decide) (by rfl) (d_cons (dv 0) d_nil)))) (d_ssone (d_ret (d_tup (d_cons (d_bty call_tuple_of im_tuple (by rfl) m_tuple bt_tuple (d_cons (dv 2) d_nil)) (d_cons (dv 3) d_nil)))))))) v_Lladder
theorem ok_Lswing {f : Addr} {fd : FuncData} (F : Def K mg "_law_swing" s_Lswing f fd) (b : Binds K fd ["place", "x"] []) (h_Ldiv : DCal P w K mg base 36 "_law_div" 2 sp_Ldiv) (h_Lsub : DCal P w K mg base 36 "_law_sub" 2 sp_Lsub) (h_Lmul : DCal P w K mg base 36 "_law_mul" 2 sp_Lmul) : DCal P w K mg base 37 "_law_swing" 2 sp_Lswing :=
  have nd : (N_Lswing).Nodup := sc_Lswing.nd
  d_fun (t := b_Lswing) F b sc_Lswing rfl (fun cdv A outer s H E hr => (d_ssone (d_ret (d_call h_Ldiv hr (by decide) (by rfl) (d_cons (d_call h_Lsub hr (by decide) (by rfl) (d_cons (dv 1) (d_cons (dv 0) d_nil))) (d_cons (d_call h_Lsub hr (by decide) (by rfl) (d_cons (d_tup (d_cons d_int (d_cons d_int d_nil))) (d_cons (d_call h_Lmul hr (by decide) (by rfl) (d_cons (dv 0) (d_cons (dv 1) d_nil))) d_nil))) d_nil)))))) v_Lswing
theorem ok_Llift {f : Addr} {fd : FuncData} (F : Def K mg "_law_lift" s_Llift f fd) (b : Binds K fd ["level", "t"] []) (h_Ldiv : DCal P w K mg base 36 "_law_div" 2 sp_Ldiv) (h_Ladd : DCal P w K mg base 36 "_law_add" 2 sp_Ladd) (h_Lmul : DCal P w K mg base 36 "_law_mul" 2 sp_Lmul) : DCal P w K mg base 37 "_law_lift" 2 sp_Llift :=
  have nd : (N_Llift).Nodup := sc_Llift.nd
  d_fun (t := b_Llift) F b sc_Llift rfl (fun cdv A outer s H E hr => (d_ssone (d_ret (d_call h_Ldiv hr (by decide) (by rfl) (d_cons (d_call h_Ladd hr (by decide) (by rfl) (d_cons (dv 0) (d_cons (dv 1) d_nil))) (d_cons (d_call h_Ladd hr (by decide) (by rfl) (d_cons (d_tup (d_cons d_int (d_cons d_int d_nil))) (d_cons (d_call h_Lmul hr (by decide) (by rfl) (d_cons (dv 0) (d_cons (dv 1) d_nil))) d_nil))) d_nil)))))) v_Llift
theorem ok_Lon {f : Addr} {fd : FuncData} (F : Def K mg "_law_on" s_Lon f fd) (b : Binds K fd ["ladder", "x"] []) (h_Llift : DCal P w K mg base 37 "_law_lift" 2 sp_Llift) (h_Lmul : DCal P w K mg base 36 "_law_mul" 2 sp_Lmul) (h_Lswing : DCal P w K mg base 37 "_law_swing" 2 sp_Lswing) : DCal P w K mg base 38 "_law_on" 2 sp_Lon :=
  have nd : (N_Lon).Nodup := sc_Lon.nd
  d_fun (t := b_Lon) F b sc_Lon rfl (fun cdv A outer s H E hr => (d_sscons (d_set (i := 2) nd rfl (.inl rfl) (d_ix ix_D im_ix (dv 0) d_int (fun _ _ => rfl))) (d_sscons (d_for PassesOwn.never rfl (d_iseq (d_revT (d_ix ix_D im_ix (dv 0) d_int (fun _ _ => rfl)))) (d_gtup rfl (d_gcons (d_gname (i := 3) nd rfl (.inl rfl)) (d_gcons (d_gname (i := 4) nd rfl (.inl rfl)) d_gnil))) (d_ssone (d_set (i := 2) nd rfl (.inl rfl) (d_call h_Llift hr (by decide) (by rfl) (d_cons (dv 4) (d_cons (d_call h_Lmul hr (by decide) (by rfl) (d_cons (d_call h_Lswing hr (by decide) (by rfl) (d_cons (dv 3) (d_cons (dv 1) d_nil))) (d_cons (dv 2) d_nil))) d_nil)))))) (d_ssone (d_ret (dv 2)))))) v_Lon
theorem okf_law {f : Addr} {fd : FuncData} (F : C8.Fun K "law" "law" s_law f fd) (h_range_at : DCal P w K mg base 40 "range_at" 2 sp_range_at) (h_with_point : DCal P w K mg base 35 "with_point" 3 sp_with_point) (h_Lless : DCal P w K mg base 34 "_law_less" 2 sp_Lless) (h_Lmul : DCal P w K mg base 36 "_law_mul" 2 sp_Lmul) (h_Ladd : DCal P w K mg base 36 "_law_add" 2 sp_Ladd) (h_can_be_told : DCal P w K mg base 39 "can_be_told" 1 sp_can_be_told) (h_Lsub : DCal P w K mg base 36 "_law_sub" 2 sp_Lsub) (h_Lf : DCal P w K mg base 35 "_law_f" 2 sp_Lf) (h_Ldraw : DCal P w K mg base 35 "_law_draw" 2 sp_Ldraw) (h_Lplace : DCal P w K mg base 36 "_law_place" 1 sp_Lplace) (h_Lplaces : DCal P w K mg base 37 "_law_places" 2 sp_Lplaces) (h_Lon : DCal P w K mg base 38 "_law_on" 2 sp_Lon) (h_Lladder : DCal P w K mg base 37 "_law_ladder" 2 sp_Lladder) (h_Lpool : DCal P w K mg base 34 "_law_pool" 1 sp_Lpool) (m_range : mg "range" = none) (m_tuple : mg "tuple" = none) : FnOk P w K mg base L2.CX0 41 f fd ["script"] (lift K 1 sp_law) :=
  have nd : (N_law).Nodup := sc_law.nd
  d_fn (t := b_law) F sc_law rfl (fun cdv A outer s H E hr => (d_sscons (d_set (i := 1) nd rfl (.inl rfl) (d_call h_Lpool hr (by decide) (by rfl) (d_cons (dv 0) d_nil))) (d_sscons (d_set (i := 2) nd rfl (.inr rfl) (d_call h_Lladder hr (by decide) (by rfl) (d_cons (dv 1) (d_cons d_int d_nil)))) (d_sscons (d_set (i := 3) nd rfl (.inl rfl) (d_bty call_tuple_of im_tuple (by rfl) m_tuple bt_tuple (d_cons (d_lc1 rfl nd (d_iseq (d_call h_Lplaces hr (by decide) (by rfl) (d_cons (dv 1) (d_cons d_int d_nil)))) (blkOk_by (N := N_law) (sc := (fnScope s_law)) (own := [("place", 25)]) (by decide +kernel)) (fun _ _ _ _ _ => pg_name (i := 25) nd rfl (.inl rfl)) (fun _ _ _ _ _ => d_tsnil) (fun _ _ _ _ _ => (d_tup (d_cons (dv 25) (d_cons (d_call h_Lon hr (by decide) (by rfl) (d_cons (dv 2) (d_cons (dv 25) d_nil))) d_nil))))) d_nil))) (d_sscons (d_setLc2 (n := 4) (by decide) rfl nd rfl rfl (sw_true rfl rfl rfl (by decide +kernel)) (d_iseq (dv 3)) (blkOk_by (N := N_law) (sc := (fnScope s_law)) (own := [("place", 25), ("level", 12)]) (by decide +kernel)) (fun _ _ _ _ _ => pg_tup rfl (pgs_cons (pg_name (i := 25) nd rfl (.inl rfl)) (pgs_cons (pg_name (i := 12) nd rfl (.inl rfl)) pgs_nil))) (fun _ _ _ _ _ => d_tsnil) (fun _ _ _ _ _ => (dv 25))) (d_sscons (d_par (i := 5) (j := 6) rfl nd rfl rfl (by decide) rfl rfl (d_cons (d_call h_Lplace hr (by decide) (by rfl) (d_cons (dv 1) d_nil)) (d_cons (d_call h_Lplace hr (by decide) (by rfl) (d_cons (dv 1) d_nil)) d_nil)) (by rfl)) (d_sscons (d_if (PW.pt (d_or (d_ptCmp (op_eqD (Room.units hr)) im_eq (dv 5) (dv 6) (nomark _)) (d_or (d_ptCmp (op_inA (Room.u65 hr)) im_in (dv 5) (dv 4) (by rfl)) (d_or1 (d_ptCmp (op_inA (Room.u65 hr)) im_in (dv 6) (dv 4) (by rfl)))))) (d_ssone (d_ret (d_cmpR op_isD im_is (d_call h_can_be_told hr (by decide) (by rfl) (d_cons (dv 3) d_nil)) d_bl (nomark _)))) d_ssnil) (d_sscons (d_asg (d_call h_range_at hr (by decide) (by rfl) (d_cons (dv 3) (d_cons (dv 5) d_nil))) (d_gtup rfl (d_gcons (d_gname (i := 7) nd rfl (.inl rfl)) (d_gcons (d_gname (i := 8) nd rfl (.inl rfl)) d_gnil)))) (d_sscons (d_set (i := 9) nd rfl (.inl rfl) (d_lst d_nil)) (d_sscons (d_for PassesOwn.never rfl (d_irng1 (by rfl) m_range (d_cons d_int d_nil)) (d_gname (i := 10) nd rfl (.inl rfl)) (d_sscons (d_set (i := 11) nd rfl (.inl rfl) (d_call h_Lf hr (by decide) (by rfl) (d_cons (d_call h_Ldraw hr (by decide) (by rfl) (d_cons (dv 1) (d_cons d_int d_nil))) (d_cons d_int d_nil)))) (d_sscons (d_set (i := 12) nd rfl (.inl rfl) (d_call h_Ladd hr (by decide) (by rfl) (d_cons (dv 7) (d_cons (d_call h_Lmul hr (by decide) (by rfl) (d_cons (dv 11) (d_cons (d_call h_Lsub hr (by decide) (by rfl) (d_cons (dv 8) (d_cons (dv 7) d_nil))) d_nil))) d_nil)))) (d_sscons (d_set (i := 13) nd rfl (.inl rfl) (d_call h_with_point hr (by decide) (by rfl) (d_cons (dv 3) (d_cons (dv 5) (d_cons (dv 12) d_nil))))) (d_sscons (d_set (i := 14) nd rfl (.inl rfl) (d_call h_range_at hr (by decide) (by rfl) (d_cons (dv 13) (d_cons (dv 6) d_nil)))) (d_sscons (d_if (PW.pt (d_or (d_ptCmp op_isNotD im_isNot (d_call h_can_be_told hr (by decide) (by rfl) (d_cons (dv 13) d_nil)) d_bl (nomark _)) (d_or1 (d_ptVal (d_call h_Lless hr (by decide) (by rfl) (d_cons (d_ix ix_D im_ix (dv 14) d_int (fun _ _ => rfl)) (d_cons (d_ix ix_D im_ix (dv 14) d_int (fun _ _ => rfl)) d_nil))))))) (d_ssone (d_ret d_bl)) d_ssnil) (d_sscons (d_set (i := 15) nd rfl (.inl rfl) (d_call h_Lf hr (by decide) (by rfl) (d_cons (d_call h_Ldraw hr (by decide) (by rfl) (d_cons (dv 1) (d_cons d_int d_nil))) (d_cons d_int d_nil)))) (d_sscons (d_expr (d_append (pe_bm PySem.F.plainAttrs_list PySem.F.slot_list_append PySem.F.type_list_append mt_append (dv 9) (d_cons (d_tup (d_cons (dv 12) (d_cons (d_call h_Ladd hr (by decide) (by rfl) (d_cons (d_ix ix_D im_ix (dv 14) d_int (fun _ _ => rfl)) (d_cons (d_call h_Lmul hr (by decide) (by rfl) (d_cons (dv 15) (d_cons (d_call h_Lsub hr (by decide) (by rfl) (d_cons (d_ix ix_D im_ix (dv 14) d_int (fun _ _ => rfl)) (d_cons (d_ix ix_D im_ix (dv 14) d_int (fun _ _ => rfl)) d_nil))) d_nil))) d_nil))) (d_cons (dv 14) d_nil)))) d_nil)))) (d_ssone (d_if (d_ptCmp op_isNotD im_isNot (d_call h_can_be_told hr (by decide) (by rfl) (d_cons (d_call h_with_point hr (by decide) (by rfl) (d_cons (dv 13) (d_cons (dv 6) (d_cons (d_ix ix_D im_ix (d_ix ix_D im_ix (dv 9) (d_un un_neg im_neg d_int) (fun _ _ => rfl)) d_int (fun _ _ => rfl)) d_nil)))) d_nil)) d_bl (nomark _)) (d_ssone (d_ret d_bl)) d_ssnil)))))))))) (d_sscons (d_set (i := 16) nd rfl (.inl rfl) (d_call h_Lmul hr (by decide) (by rfl) (d_cons (d_call h_Ladd hr (by decide) (by rfl) (d_cons (d_ix ix_D im_ix (d_ix ix_D im_ix (dv 9) d_int (fun _ _ => rfl)) d_int (fun _ _ => rfl)) (d_cons (d_ix ix_D im_ix (d_ix ix_D im_ix (dv 9) d_int (fun _ _ => rfl)) d_int (fun _ _ => rfl)) d_nil))) (d_cons (d_tup (d_cons d_int (d_cons d_int d_nil))) d_nil)))) (d_sscons (d_set (i := 17) nd rfl (.inl rfl) (d_call h_Lmul hr (by decide) (by rfl) (d_cons (d_call h_Ladd hr (by decide) (by rfl) (d_cons (d_ix ix_D im_ix (d_ix ix_D im_ix (dv 9) d_int (fun _ _ => rfl)) d_int (fun _ _ => rfl)) (d_cons (d_ix ix_D im_ix (d_ix ix_D im_ix (dv 9) d_int (fun _ _ => rfl)) d_int (fun _ _ => rfl)) d_nil))) (d_cons (d_tup (d_cons d_int (d_cons d_int d_nil))) d_nil)))) (d_sscons (d_set (i := 18) nd rfl (.inl rfl) (d_call h_with_point hr (by decide) (by rfl) (d_cons (dv 3) (d_cons (dv 5) (d_cons (dv 16) d_nil))))) (d_sscons (d_if (d_ptCmp op_isNotD im_isNot (d_call h_can_be_told hr (by decide) (by rfl) (d_cons (d_call h_with_point hr (by decide) (by rfl) (d_cons (dv 18) (d_cons (dv 6) (d_cons (dv 17) d_nil)))) d_nil)) d_bl (nomark _)) (d_ssone (d_ret d_bl)) d_ssnil) (d_sscons (d_set (i := 14) nd rfl (.inl rfl) (d_call h_range_at hr (by decide) (by rfl) (d_cons (dv 18) (d_cons (dv 6) d_nil)))) (d_sscons (d_set (i := 19) nd rfl (.inl rfl) (d_call h_Lmul hr (by decide) (by rfl) (d_cons (d_call h_Ladd hr (by decide) (by rfl) (d_cons (d_ix ix_D im_ix (d_ix ix_D im_ix (d_ix ix_D im_ix (dv 9) d_int (fun _ _ => rfl)) d_int (fun _ _ => rfl)) d_int (fun _ _ => rfl)) (d_cons (d_ix ix_D im_ix (d_ix ix_D im_ix (d_ix ix_D im_ix (dv 9) d_int (fun _ _ => rfl)) d_int (fun _ _ => rfl)) d_int (fun _ _ => rfl)) d_nil))) (d_cons (d_tup (d_cons d_int (d_cons d_int d_nil))) d_nil)))) (d_sscons (d_set (i := 20) nd rfl (.inl rfl) (d_call h_Lmul hr (by decide) (by rfl) (d_cons (d_call h_Ladd hr (by decide) (by rfl) (d_cons (d_ix ix_D im_ix (d_ix ix_D im_ix (d_ix ix_D im_ix (dv 9) d_int (fun _ _ => rfl)) d_int (fun _ _ => rfl)) d_int (fun _ _ => rfl)) (d_cons (d_ix ix_D im_ix (d_ix ix_D im_ix (d_ix ix_D im_ix (dv 9) d_int (fun _ _ => rfl)) d_int (fun _ _ => rfl)) d_int (fun _ _ => rfl)) d_nil))) (d_cons (d_tup (d_cons d_int (d_cons d_int d_nil))) d_nil)))) (d_sscons (d_if (PW.pt (d_or (d_ptVal (d_call h_Lless hr (by decide) (by rfl) (d_cons (dv 19) (d_cons (d_ix ix_D im_ix (dv 14) d_int (fun _ _ => rfl)) d_nil)))) (d_or1 (d_ptVal (d_call h_Lless hr (by decide) (by rfl) (d_cons (d_ix ix_D im_ix (dv 14) d_int (fun _ _ => rfl)) (d_cons (dv 20) d_nil))))))) (d_ssone (d_ret d_bl)) d_ssnil) (d_sscons (d_set (i := 21) nd rfl (.inl rfl) (d_call h_range_at hr (by decide) (by rfl) (d_cons (dv 3) (d_cons (dv 6) d_nil)))) (d_sscons (d_for PassesOwn.never rfl (d_iseq (dv 9)) (d_gtup rfl (d_gcons (d_gname (i := 12) nd rfl (.inl rfl)) (d_gcons (d_gname (i := 22) nd rfl (.inl rfl)) (d_gcons (d_gname (i := 23) nd rfl (.inl rfl)) d_gnil)))) (d_ssone (d_if (PW.pt (d_or (d_ptVal (d_call h_Lless hr (by decide) (by rfl) (d_cons (d_ix ix_D im_ix (dv 23) d_int (fun _ _ => rfl)) (d_cons (d_ix ix_D im_ix (dv 21) d_int (fun _ _ => rfl)) d_nil)))) (d_or1 (d_ptVal (d_call h_Lless hr (by decide) (by rfl) (d_cons (d_ix ix_D im_ix (dv 21) d_int (fun _ _ => rfl)) (d_cons (d_ix ix_D im_ix (dv 23) d_int (fun _ _ => rfl)) d_nil))))))) (d_ssone (d_ret d_bl)) d_ssnil))) (d_sscons (d_for PassesOwn.never rfl (d_irng1 (by rfl) m_range (d_cons d_int d_nil)) (d_gname (i := 10) nd rfl (.inl rfl)) (d_sscons (d_set (i := 24) nd rfl (.inl rfl) (d_call h_range_at hr (by decide) (by rfl) (d_cons (d_call h_with_point hr (by decide) (by rfl) (d_cons (dv 3) (d_cons (dv 5) (d_cons (d_ix ix_D im_ix (d_tup (d_cons (dv 7) (d_cons (dv 8) d_nil))) (dv 10) (fun _ _ => rfl)) d_nil)))) (d_cons (dv 6) d_nil)))) (d_ssone (d_if (d_ptCmp (op_neD (Room.units hr)) im_ne (d_ix ix_D im_ix (dv 24) d_int (fun _ _ => rfl)) (d_ix ix_D im_ix (dv 24) d_int (fun _ _ => rfl)) (nomark _)) (d_ssone (d_ret d_bl)) d_ssnil)))) (d_ssone (d_ret d_bl))))))))))))))))))))))) v_law
set_option maxHeartbeats 0 in
theorem all_mk {l : PySem.W.OpenLaw} {w : World} {K : PySem.W.Frag} {h : Heap} {mg : Str → Option Value} {fa : Addr} (X : K.In h) (G : h.Ns mainGlobals mg) (hfa : mg "law" = some (.ref fa)) (hT : l.prog.given.tree = none)
    {f_is_whole f_common f_fraction f_is_fraction f_plus f_minus f_times f_over f_less f_is_level f_turn f_lifted f_lowered f_value_on f_is_full f_ladder_of f_can_be_told f_ends_at f_range_at f_with_point f_Lpool f_Lspread f_Ldraw f_Lgcd f_Lf f_Ladd f_Lsub f_Lmul f_Ldiv f_Lless f_Lplace f_Llevel f_Lplaces f_Lladder f_Lswing f_Llift f_Lon f_law : Addr} {oc_is_whole kV_is_whole dc_is_whole pm_is_whole cd_is_whole ct_is_whole oc_common kV_common dc_common pm_common cd_common ct_common oc_fraction kV_fraction dc_fraction pm_fraction cd_fraction ct_fraction oc_is_fraction kV_is_fraction dc_is_fraction pm_is_fraction cd_is_fraction ct_is_fraction oc_plus kV_plus dc_plus pm_plus cd_plus ct_plus oc_minus kV_minus dc_minus pm_minus cd_minus ct_minus oc_times kV_times dc_times pm_times cd_times ct_times oc_over kV_over dc_over pm_over cd_over ct_over oc_less kV_less dc_less pm_less cd_less ct_less oc_is_level kV_is_level dc_is_level pm_is_level cd_is_level ct_is_level oc_turn kV_turn dc_turn pm_turn cd_turn ct_turn oc_lifted kV_lifted dc_lifted pm_lifted cd_lifted ct_lifted oc_lowered kV_lowered dc_lowered pm_lowered cd_lowered ct_lowered oc_value_on kV_value_on dc_value_on pm_value_on cd_value_on ct_value_on oc_is_full kV_is_full dc_is_full pm_is_full cd_is_full ct_is_full oc_ladder_of kV_ladder_of dc_ladder_of pm_ladder_of cd_ladder_of ct_ladder_of oc_can_be_told kV_can_be_told dc_can_be_told pm_can_be_told cd_can_be_told ct_can_be_told oc_ends_at kV_ends_at dc_ends_at pm_ends_at cd_ends_at ct_ends_at oc_range_at kV_range_at dc_range_at pm_range_at cd_range_at ct_range_at oc_with_point kV_with_point dc_with_point pm_with_point cd_with_point ct_with_point oc_Lpool kV_Lpool dc_Lpool pm_Lpool cd_Lpool ct_Lpool oc_Lspread kV_Lspread dc_Lspread pm_Lspread cd_Lspread ct_Lspread oc_Ldraw kV_Ldraw dc_Ldraw pm_Ldraw cd_Ldraw ct_Ldraw oc_Lgcd kV_Lgcd dc_Lgcd pm_Lgcd cd_Lgcd ct_Lgcd oc_Lf kV_Lf dc_Lf pm_Lf cd_Lf ct_Lf oc_Ladd kV_Ladd dc_Ladd pm_Ladd cd_Ladd ct_Ladd oc_Lsub kV_Lsub dc_Lsub pm_Lsub cd_Lsub ct_Lsub oc_Lmul kV_Lmul dc_Lmul pm_Lmul cd_Lmul ct_Lmul oc_Ldiv kV_Ldiv dc_Ldiv pm_Ldiv cd_Ldiv ct_Ldiv oc_Lless kV_Lless dc_Lless pm_Lless cd_Lless ct_Lless oc_Lplace kV_Lplace dc_Lplace pm_Lplace cd_Lplace ct_Lplace oc_Llevel kV_Llevel dc_Llevel pm_Llevel cd_Llevel ct_Llevel oc_Lplaces kV_Lplaces dc_Lplaces pm_Lplaces cd_Lplaces ct_Lplaces oc_Lladder kV_Lladder dc_Lladder pm_Lladder cd_Lladder ct_Lladder oc_Lswing kV_Lswing dc_Lswing pm_Lswing cd_Lswing ct_Lswing oc_Llift kV_Llift dc_Llift pm_Llift cd_Llift ct_Llift oc_Lon kV_Lon dc_Lon pm_Lon cd_Lon ct_Lon oc_law kV_law dc_law pm_law cd_law ct_law : Value} {od_is_whole an_is_whole od_common an_common od_fraction an_fraction od_is_fraction an_is_fraction od_plus an_plus od_minus an_minus od_times an_times od_over an_over od_less an_less od_is_level an_is_level od_turn an_turn od_lifted an_lifted od_lowered an_lowered od_value_on an_value_on od_is_full an_is_full od_ladder_of an_ladder_of od_can_be_told an_can_be_told od_ends_at an_ends_at od_range_at an_range_at od_with_point an_with_point od_Lpool an_Lpool od_Lspread an_Lspread od_Ldraw an_Ldraw od_Lgcd an_Lgcd od_Lf an_Lf od_Ladd an_Ladd od_Lsub an_Lsub od_Lmul an_Lmul od_Ldiv an_Ldiv od_Lless an_Lless od_Lplace an_Lplace od_Llevel an_Llevel od_Lplaces an_Lplaces od_Lladder an_Lladder od_Lswing an_Lswing od_Llift an_Llift od_Lon an_Lon od_law an_law : Option Addr} {sl_is_whole sl_common sl_fraction sl_is_fraction sl_plus sl_minus sl_times sl_over sl_less sl_is_level sl_turn sl_lifted sl_lowered sl_value_on sl_is_full sl_ladder_of sl_can_be_told sl_ends_at sl_range_at sl_with_point sl_Lpool sl_Lspread sl_Ldraw sl_Lgcd sl_Lf sl_Ladd sl_Lsub sl_Lmul sl_Ldiv sl_Lless sl_Lplace sl_Llevel sl_Lplaces sl_Lladder sl_Lswing sl_Llift sl_Lon sl_law : Array (Option Value)} {p_ONE p_ZERO : Addr} {gd_ONE gd_ZERO : Option Addr} {t1_ONE t2_ONE t1_ZERO t2_ZERO : Tok} {gn_ONE gn_ZERO : Nat} {gs_ONE gs_ZERO : Array (Option Value)}
    (a_is_whole : PySem.W.nsIn K mainGlobals "is_whole" = some (some (.ref f_is_whole))) (l_is_whole : K.lookup f_is_whole = some ⟨oc_is_whole, od_is_whole, .func (PySem.W.fnOf "is_whole" "is_whole" (fnArgs s_is_whole) (fnBody s_is_whole) (fnScope s_is_whole) .none kV_is_whole dc_is_whole pm_is_whole an_is_whole cd_is_whole ct_is_whole), sl_is_whole⟩) (c_is_whole : PySem.W.codeIn K cd_is_whole "is_whole" = true) (k_is_whole : PySem.W.keepIn K (.ref f_is_whole) = true)
    (a_common : PySem.W.nsIn K mainGlobals "common" = some (some (.ref f_common))) (l_common : K.lookup f_common = some ⟨oc_common, od_common, .func (PySem.W.fnOf "common" "common" (fnArgs s_common) (fnBody s_common) (fnScope s_common) .none kV_common dc_common pm_common an_common cd_common ct_common), sl_common⟩) (c_common : PySem.W.codeIn K cd_common "common" = true) (k_common : PySem.W.keepIn K (.ref f_common) = true)
    (a_fraction : PySem.W.nsIn K mainGlobals "fraction" = some (some (.ref f_fraction))) (l_fraction : K.lookup f_fraction = some ⟨oc_fraction, od_fraction, .func (PySem.W.fnOf "fraction" "fraction" (fnArgs s_fraction) (fnBody s_fraction) (fnScope s_fraction) .none kV_fraction dc_fraction pm_fraction an_fraction cd_fraction ct_fraction), sl_fraction⟩) (c_fraction : PySem.W.codeIn K cd_fraction "fraction" = true) (k_fraction : PySem.W.keepIn K (.ref f_fraction) = true)
    (a_is_fraction : PySem.W.nsIn K mainGlobals "is_fraction" = some (some (.ref f_is_fraction))) (l_is_fraction : K.lookup f_is_fraction = some ⟨oc_is_fraction, od_is_fraction, .func (PySem.W.fnOf "is_fraction" "is_fraction" (fnArgs s_is_fraction) (fnBody s_is_fraction) (fnScope s_is_fraction) .none kV_is_fraction dc_is_fraction pm_is_fraction an_is_fraction cd_is_fraction ct_is_fraction), sl_is_fraction⟩) (c_is_fraction : PySem.W.codeIn K cd_is_fraction "is_fraction" = true) (k_is_fraction : PySem.W.keepIn K (.ref f_is_fraction) = true)
    (a_plus : PySem.W.nsIn K mainGlobals "plus" = some (some (.ref f_plus))) (l_plus : K.lookup f_plus = some ⟨oc_plus, od_plus, .func (PySem.W.fnOf "plus" "plus" (fnArgs s_plus) (fnBody s_plus) (fnScope s_plus) .none kV_plus dc_plus pm_plus an_plus cd_plus ct_plus), sl_plus⟩) (c_plus : PySem.W.codeIn K cd_plus "plus" = true) (k_plus : PySem.W.keepIn K (.ref f_plus) = true)
    (a_minus : PySem.W.nsIn K mainGlobals "minus" = some (some (.ref f_minus))) (l_minus : K.lookup f_minus = some ⟨oc_minus, od_minus, .func (PySem.W.fnOf "minus" "minus" (fnArgs s_minus) (fnBody s_minus) (fnScope s_minus) .none kV_minus dc_minus pm_minus an_minus cd_minus ct_minus), sl_minus⟩) (c_minus : PySem.W.codeIn K cd_minus "minus" = true) (k_minus : PySem.W.keepIn K (.ref f_minus) = true)
    (a_times : PySem.W.nsIn K mainGlobals "times" = some (some (.ref f_times))) (l_times : K.lookup f_times = some ⟨oc_times, od_times, .func (PySem.W.fnOf "times" "times" (fnArgs s_times) (fnBody s_times) (fnScope s_times) .none kV_times dc_times pm_times an_times cd_times ct_times), sl_times⟩) (c_times : PySem.W.codeIn K cd_times "times" = true) (k_times : PySem.W.keepIn K (.ref f_times) = true)
    (a_over : PySem.W.nsIn K mainGlobals "over" = some (some (.ref f_over))) (l_over : K.lookup f_over = some ⟨oc_over, od_over, .func (PySem.W.fnOf "over" "over" (fnArgs s_over) (fnBody s_over) (fnScope s_over) .none kV_over dc_over pm_over an_over cd_over ct_over), sl_over⟩) (c_over : PySem.W.codeIn K cd_over "over" = true) (k_over : PySem.W.keepIn K (.ref f_over) = true)
    (a_less : PySem.W.nsIn K mainGlobals "less" = some (some (.ref f_less))) (l_less : K.lookup f_less = some ⟨oc_less, od_less, .func (PySem.W.fnOf "less" "less" (fnArgs s_less) (fnBody s_less) (fnScope s_less) .none kV_less dc_less pm_less an_less cd_less ct_less), sl_less⟩) (c_less : PySem.W.codeIn K cd_less "less" = true) (k_less : PySem.W.keepIn K (.ref f_less) = true)
    (a_is_level : PySem.W.nsIn K mainGlobals "is_level" = some (some (.ref f_is_level))) (l_is_level : K.lookup f_is_level = some ⟨oc_is_level, od_is_level, .func (PySem.W.fnOf "is_level" "is_level" (fnArgs s_is_level) (fnBody s_is_level) (fnScope s_is_level) .none kV_is_level dc_is_level pm_is_level an_is_level cd_is_level ct_is_level), sl_is_level⟩) (c_is_level : PySem.W.codeIn K cd_is_level "is_level" = true) (k_is_level : PySem.W.keepIn K (.ref f_is_level) = true)
    (a_turn : PySem.W.nsIn K mainGlobals "turn" = some (some (.ref f_turn))) (l_turn : K.lookup f_turn = some ⟨oc_turn, od_turn, .func (PySem.W.fnOf "turn" "turn" (fnArgs s_turn) (fnBody s_turn) (fnScope s_turn) .none kV_turn dc_turn pm_turn an_turn cd_turn ct_turn), sl_turn⟩) (c_turn : PySem.W.codeIn K cd_turn "turn" = true) (k_turn : PySem.W.keepIn K (.ref f_turn) = true)
    (a_lifted : PySem.W.nsIn K mainGlobals "lifted" = some (some (.ref f_lifted))) (l_lifted : K.lookup f_lifted = some ⟨oc_lifted, od_lifted, .func (PySem.W.fnOf "lifted" "lifted" (fnArgs s_lifted) (fnBody s_lifted) (fnScope s_lifted) .none kV_lifted dc_lifted pm_lifted an_lifted cd_lifted ct_lifted), sl_lifted⟩) (c_lifted : PySem.W.codeIn K cd_lifted "lifted" = true) (k_lifted : PySem.W.keepIn K (.ref f_lifted) = true)
    (a_lowered : PySem.W.nsIn K mainGlobals "lowered" = some (some (.ref f_lowered))) (l_lowered : K.lookup f_lowered = some ⟨oc_lowered, od_lowered, .func (PySem.W.fnOf "lowered" "lowered" (fnArgs s_lowered) (fnBody s_lowered) (fnScope s_lowered) .none kV_lowered dc_lowered pm_lowered an_lowered cd_lowered ct_lowered), sl_lowered⟩) (c_lowered : PySem.W.codeIn K cd_lowered "lowered" = true) (k_lowered : PySem.W.keepIn K (.ref f_lowered) = true)
    (a_value_on : PySem.W.nsIn K mainGlobals "value_on" = some (some (.ref f_value_on))) (l_value_on : K.lookup f_value_on = some ⟨oc_value_on, od_value_on, .func (PySem.W.fnOf "value_on" "value_on" (fnArgs s_value_on) (fnBody s_value_on) (fnScope s_value_on) .none kV_value_on dc_value_on pm_value_on an_value_on cd_value_on ct_value_on), sl_value_on⟩) (c_value_on : PySem.W.codeIn K cd_value_on "value_on" = true) (k_value_on : PySem.W.keepIn K (.ref f_value_on) = true)
    (a_is_full : PySem.W.nsIn K mainGlobals "is_full" = some (some (.ref f_is_full))) (l_is_full : K.lookup f_is_full = some ⟨oc_is_full, od_is_full, .func (PySem.W.fnOf "is_full" "is_full" (fnArgs s_is_full) (fnBody s_is_full) (fnScope s_is_full) .none kV_is_full dc_is_full pm_is_full an_is_full cd_is_full ct_is_full), sl_is_full⟩) (c_is_full : PySem.W.codeIn K cd_is_full "is_full" = true) (k_is_full : PySem.W.keepIn K (.ref f_is_full) = true)
    (a_ladder_of : PySem.W.nsIn K mainGlobals "ladder_of" = some (some (.ref f_ladder_of))) (l_ladder_of : K.lookup f_ladder_of = some ⟨oc_ladder_of, od_ladder_of, .func (PySem.W.fnOf "ladder_of" "ladder_of" (fnArgs s_ladder_of) (fnBody s_ladder_of) (fnScope s_ladder_of) .none kV_ladder_of dc_ladder_of pm_ladder_of an_ladder_of cd_ladder_of ct_ladder_of), sl_ladder_of⟩) (c_ladder_of : PySem.W.codeIn K cd_ladder_of "ladder_of" = true) (k_ladder_of : PySem.W.keepIn K (.ref f_ladder_of) = true)
    (a_can_be_told : PySem.W.nsIn K mainGlobals "can_be_told" = some (some (.ref f_can_be_told))) (l_can_be_told : K.lookup f_can_be_told = some ⟨oc_can_be_told, od_can_be_told, .func (PySem.W.fnOf "can_be_told" "can_be_told" (fnArgs s_can_be_told) (fnBody s_can_be_told) (fnScope s_can_be_told) .none kV_can_be_told dc_can_be_told pm_can_be_told an_can_be_told cd_can_be_told ct_can_be_told), sl_can_be_told⟩) (c_can_be_told : PySem.W.codeIn K cd_can_be_told "can_be_told" = true) (k_can_be_told : PySem.W.keepIn K (.ref f_can_be_told) = true)
    (a_ends_at : PySem.W.nsIn K mainGlobals "ends_at" = some (some (.ref f_ends_at))) (l_ends_at : K.lookup f_ends_at = some ⟨oc_ends_at, od_ends_at, .func (PySem.W.fnOf "ends_at" "ends_at" (fnArgs s_ends_at) (fnBody s_ends_at) (fnScope s_ends_at) .none kV_ends_at dc_ends_at pm_ends_at an_ends_at cd_ends_at ct_ends_at), sl_ends_at⟩) (c_ends_at : PySem.W.codeIn K cd_ends_at "ends_at" = true) (k_ends_at : PySem.W.keepIn K (.ref f_ends_at) = true)
    (a_range_at : PySem.W.nsIn K mainGlobals "range_at" = some (some (.ref f_range_at))) (l_range_at : K.lookup f_range_at = some ⟨oc_range_at, od_range_at, .func (PySem.W.fnOf "range_at" "range_at" (fnArgs s_range_at) (fnBody s_range_at) (fnScope s_range_at) .none kV_range_at dc_range_at pm_range_at an_range_at cd_range_at ct_range_at), sl_range_at⟩) (c_range_at : PySem.W.codeIn K cd_range_at "range_at" = true) (k_range_at : PySem.W.keepIn K (.ref f_range_at) = true)
    (a_with_point : PySem.W.nsIn K mainGlobals "with_point" = some (some (.ref f_with_point))) (l_with_point : K.lookup f_with_point = some ⟨oc_with_point, od_with_point, .func (PySem.W.fnOf "with_point" "with_point" (fnArgs s_with_point) (fnBody s_with_point) (fnScope s_with_point) .none kV_with_point dc_with_point pm_with_point an_with_point cd_with_point ct_with_point), sl_with_point⟩) (c_with_point : PySem.W.codeIn K cd_with_point "with_point" = true) (k_with_point : PySem.W.keepIn K (.ref f_with_point) = true)
    (a_Lpool : PySem.W.nsIn K mainGlobals "_law_pool" = some (some (.ref f_Lpool))) (l_Lpool : K.lookup f_Lpool = some ⟨oc_Lpool, od_Lpool, .func (PySem.W.fnOf "_law_pool" "_law_pool" (fnArgs s_Lpool) (fnBody s_Lpool) (fnScope s_Lpool) .none kV_Lpool dc_Lpool pm_Lpool an_Lpool cd_Lpool ct_Lpool), sl_Lpool⟩) (c_Lpool : PySem.W.codeIn K cd_Lpool "_law_pool" = true) (k_Lpool : PySem.W.keepIn K (.ref f_Lpool) = true)
    (a_Lspread : PySem.W.nsIn K mainGlobals "_law_spread" = some (some (.ref f_Lspread))) (l_Lspread : K.lookup f_Lspread = some ⟨oc_Lspread, od_Lspread, .func (PySem.W.fnOf "_law_spread" "_law_spread" (fnArgs s_Lspread) (fnBody s_Lspread) (fnScope s_Lspread) .none kV_Lspread dc_Lspread pm_Lspread an_Lspread cd_Lspread ct_Lspread), sl_Lspread⟩) (c_Lspread : PySem.W.codeIn K cd_Lspread "_law_spread" = true) (k_Lspread : PySem.W.keepIn K (.ref f_Lspread) = true)
    (a_Ldraw : PySem.W.nsIn K mainGlobals "_law_draw" = some (some (.ref f_Ldraw))) (l_Ldraw : K.lookup f_Ldraw = some ⟨oc_Ldraw, od_Ldraw, .func (PySem.W.fnOf "_law_draw" "_law_draw" (fnArgs s_Ldraw) (fnBody s_Ldraw) (fnScope s_Ldraw) .none kV_Ldraw dc_Ldraw pm_Ldraw an_Ldraw cd_Ldraw ct_Ldraw), sl_Ldraw⟩) (c_Ldraw : PySem.W.codeIn K cd_Ldraw "_law_draw" = true) (k_Ldraw : PySem.W.keepIn K (.ref f_Ldraw) = true)
    (a_Lgcd : PySem.W.nsIn K mainGlobals "_law_gcd" = some (some (.ref f_Lgcd))) (l_Lgcd : K.lookup f_Lgcd = some ⟨oc_Lgcd, od_Lgcd, .func (PySem.W.fnOf "_law_gcd" "_law_gcd" (fnArgs s_Lgcd) (fnBody s_Lgcd) (fnScope s_Lgcd) .none kV_Lgcd dc_Lgcd pm_Lgcd an_Lgcd cd_Lgcd ct_Lgcd), sl_Lgcd⟩) (c_Lgcd : PySem.W.codeIn K cd_Lgcd "_law_gcd" = true) (k_Lgcd : PySem.W.keepIn K (.ref f_Lgcd) = true)
    (a_Lf : PySem.W.nsIn K mainGlobals "_law_f" = some (some (.ref f_Lf))) (l_Lf : K.lookup f_Lf = some ⟨oc_Lf, od_Lf, .func (PySem.W.fnOf "_law_f" "_law_f" (fnArgs s_Lf) (fnBody s_Lf) (fnScope s_Lf) .none kV_Lf dc_Lf pm_Lf an_Lf cd_Lf ct_Lf), sl_Lf⟩) (c_Lf : PySem.W.codeIn K cd_Lf "_law_f" = true) (k_Lf : PySem.W.keepIn K (.ref f_Lf) = true)
    (a_Ladd : PySem.W.nsIn K mainGlobals "_law_add" = some (some (.ref f_Ladd))) (l_Ladd : K.lookup f_Ladd = some ⟨oc_Ladd, od_Ladd, .func (PySem.W.fnOf "_law_add" "_law_add" (fnArgs s_Ladd) (fnBody s_Ladd) (fnScope s_Ladd) .none kV_Ladd dc_Ladd pm_Ladd an_Ladd cd_Ladd ct_Ladd), sl_Ladd⟩) (c_Ladd : PySem.W.codeIn K cd_Ladd "_law_add" = true) (k_Ladd : PySem.W.keepIn K (.ref f_Ladd) = true)
    (a_Lsub : PySem.W.nsIn K mainGlobals "_law_sub" = some (some (.ref f_Lsub))) (l_Lsub : K.lookup f_Lsub = some ⟨oc_Lsub, od_Lsub, .func (PySem.W.fnOf "_law_sub" "_law_sub" (fnArgs s_Lsub) (fnBody s_Lsub) (fnScope s_Lsub) .none kV_Lsub dc_Lsub pm_Lsub an_Lsub cd_Lsub ct_Lsub), sl_Lsub⟩) (c_Lsub : PySem.W.codeIn K cd_Lsub "_law_sub" = true) (k_Lsub : PySem.W.keepIn K (.ref f_Lsub) = true)
    (a_Lmul : PySem.W.nsIn K mainGlobals "_law_mul" = some (some (.ref f_Lmul))) (l_Lmul : K.lookup f_Lmul = some ⟨oc_Lmul, od_Lmul, .func (PySem.W.fnOf "_law_mul" "_law_mul" (fnArgs s_Lmul) (fnBody s_Lmul) (fnScope s_Lmul) .none kV_Lmul dc_Lmul pm_Lmul an_Lmul cd_Lmul ct_Lmul), sl_Lmul⟩) (c_Lmul : PySem.W.codeIn K cd_Lmul "_law_mul" = true) (k_Lmul : PySem.W.keepIn K (.ref f_Lmul) = true)
    (a_Ldiv : PySem.W.nsIn K mainGlobals "_law_div" = some (some (.ref f_Ldiv))) (l_Ldiv : K.lookup f_Ldiv = some ⟨oc_Ldiv, od_Ldiv, .func (PySem.W.fnOf "_law_div" "_law_div" (fnArgs s_Ldiv) (fnBody s_Ldiv) (fnScope s_Ldiv) .none kV_Ldiv dc_Ldiv pm_Ldiv an_Ldiv cd_Ldiv ct_Ldiv), sl_Ldiv⟩) (c_Ldiv : PySem.W.codeIn K cd_Ldiv "_law_div" = true) (k_Ldiv : PySem.W.keepIn K (.ref f_Ldiv) = true)
    (a_Lless : PySem.W.nsIn K mainGlobals "_law_less" = some (some (.ref f_Lless))) (l_Lless : K.lookup f_Lless = some ⟨oc_Lless, od_Lless, .func (PySem.W.fnOf "_law_less" "_law_less" (fnArgs s_Lless) (fnBody s_Lless) (fnScope s_Lless) .none kV_Lless dc_Lless pm_Lless an_Lless cd_Lless ct_Lless), sl_Lless⟩) (c_Lless : PySem.W.codeIn K cd_Lless "_law_less" = true) (k_Lless : PySem.W.keepIn K (.ref f_Lless) = true)
    (a_Lplace : PySem.W.nsIn K mainGlobals "_law_place" = some (some (.ref f_Lplace))) (l_Lplace : K.lookup f_Lplace = some ⟨oc_Lplace, od_Lplace, .func (PySem.W.fnOf "_law_place" "_law_place" (fnArgs s_Lplace) (fnBody s_Lplace) (fnScope s_Lplace) .none kV_Lplace dc_Lplace pm_Lplace an_Lplace cd_Lplace ct_Lplace), sl_Lplace⟩) (c_Lplace : PySem.W.codeIn K cd_Lplace "_law_place" = true) (k_Lplace : PySem.W.keepIn K (.ref f_Lplace) = true)
    (a_Llevel : PySem.W.nsIn K mainGlobals "_law_level" = some (some (.ref f_Llevel))) (l_Llevel : K.lookup f_Llevel = some ⟨oc_Llevel, od_Llevel, .func (PySem.W.fnOf "_law_level" "_law_level" (fnArgs s_Llevel) (fnBody s_Llevel) (fnScope s_Llevel) .none kV_Llevel dc_Llevel pm_Llevel an_Llevel cd_Llevel ct_Llevel), sl_Llevel⟩) (c_Llevel : PySem.W.codeIn K cd_Llevel "_law_level" = true) (k_Llevel : PySem.W.keepIn K (.ref f_Llevel) = true)
    (a_Lplaces : PySem.W.nsIn K mainGlobals "_law_places" = some (some (.ref f_Lplaces))) (l_Lplaces : K.lookup f_Lplaces = some ⟨oc_Lplaces, od_Lplaces, .func (PySem.W.fnOf "_law_places" "_law_places" (fnArgs s_Lplaces) (fnBody s_Lplaces) (fnScope s_Lplaces) .none kV_Lplaces dc_Lplaces pm_Lplaces an_Lplaces cd_Lplaces ct_Lplaces), sl_Lplaces⟩) (c_Lplaces : PySem.W.codeIn K cd_Lplaces "_law_places" = true) (k_Lplaces : PySem.W.keepIn K (.ref f_Lplaces) = true)
    (a_Lladder : PySem.W.nsIn K mainGlobals "_law_ladder" = some (some (.ref f_Lladder))) (l_Lladder : K.lookup f_Lladder = some ⟨oc_Lladder, od_Lladder, .func (PySem.W.fnOf "_law_ladder" "_law_ladder" (fnArgs s_Lladder) (fnBody s_Lladder) (fnScope s_Lladder) .none kV_Lladder dc_Lladder pm_Lladder an_Lladder cd_Lladder ct_Lladder), sl_Lladder⟩) (c_Lladder : PySem.W.codeIn K cd_Lladder "_law_ladder" = true) (k_Lladder : PySem.W.keepIn K (.ref f_Lladder) = true)
    (a_Lswing : PySem.W.nsIn K mainGlobals "_law_swing" = some (some (.ref f_Lswing))) (l_Lswing : K.lookup f_Lswing = some ⟨oc_Lswing, od_Lswing, .func (PySem.W.fnOf "_law_swing" "_law_swing" (fnArgs s_Lswing) (fnBody s_Lswing) (fnScope s_Lswing) .none kV_Lswing dc_Lswing pm_Lswing an_Lswing cd_Lswing ct_Lswing), sl_Lswing⟩) (c_Lswing : PySem.W.codeIn K cd_Lswing "_law_swing" = true) (k_Lswing : PySem.W.keepIn K (.ref f_Lswing) = true)
    (a_Llift : PySem.W.nsIn K mainGlobals "_law_lift" = some (some (.ref f_Llift))) (l_Llift : K.lookup f_Llift = some ⟨oc_Llift, od_Llift, .func (PySem.W.fnOf "_law_lift" "_law_lift" (fnArgs s_Llift) (fnBody s_Llift) (fnScope s_Llift) .none kV_Llift dc_Llift pm_Llift an_Llift cd_Llift ct_Llift), sl_Llift⟩) (c_Llift : PySem.W.codeIn K cd_Llift "_law_lift" = true) (k_Llift : PySem.W.keepIn K (.ref f_Llift) = true)
    (a_Lon : PySem.W.nsIn K mainGlobals "_law_on" = some (some (.ref f_Lon))) (l_Lon : K.lookup f_Lon = some ⟨oc_Lon, od_Lon, .func (PySem.W.fnOf "_law_on" "_law_on" (fnArgs s_Lon) (fnBody s_Lon) (fnScope s_Lon) .none kV_Lon dc_Lon pm_Lon an_Lon cd_Lon ct_Lon), sl_Lon⟩) (c_Lon : PySem.W.codeIn K cd_Lon "_law_on" = true) (k_Lon : PySem.W.keepIn K (.ref f_Lon) = true)
    (a_law : PySem.W.nsIn K mainGlobals "law" = some (some (.ref f_law))) (l_law : K.lookup f_law = some ⟨oc_law, od_law, .func (PySem.W.fnOf "law" "law" (fnArgs s_law) (fnBody s_law) (fnScope s_law) .none kV_law dc_law pm_law an_law cd_law ct_law), sl_law⟩) (c_law : PySem.W.codeIn K cd_law "law" = true) (k_law : PySem.W.keepIn K (.ref f_law) = true)
    (z_abs : PySem.W.nsIn K mainGlobals "abs" = some none)
    (z_all : PySem.W.nsIn K mainGlobals "all" = some none)
    (z_bool : PySem.W.nsIn K mainGlobals "bool" = some none)
    (z_int : PySem.W.nsIn K mainGlobals "int" = some none)
    (z_isinstance : PySem.W.nsIn K mainGlobals "isinstance" = some none)
    (z_len : PySem.W.nsIn K mainGlobals "len" = some none)
    (z_list : PySem.W.nsIn K mainGlobals "list" = some none)
    (z_max : PySem.W.nsIn K mainGlobals "max" = some none)
    (z_range : PySem.W.nsIn K mainGlobals "range" = some none)
    (z_tuple : PySem.W.nsIn K mainGlobals "tuple" = some none)
    (ga_ONE : PySem.W.nsIn K mainGlobals "ONE" = some (some (.ref p_ONE))) (gl_ONE : K.lookup p_ONE = some ⟨.type "tuple", gd_ONE, .seq #[.int 1 t1_ONE, .int 1 t2_ONE] gn_ONE, gs_ONE⟩)
    (ga_ZERO : PySem.W.nsIn K mainGlobals "ZERO" = some (some (.ref p_ZERO))) (gl_ZERO : K.lookup p_ZERO = some ⟨.type "tuple", gd_ZERO, .seq #[.int 0 t1_ZERO, .int 1 t2_ZERO] gn_ZERO, gs_ZERO⟩) :
    ∃ fd : FuncData, (∀ (s : Shared) (v : Value), BindsTo s fd ⟨[v], []⟩ [("script", v)]) ∧ ∀ base : Heap, K.In base → base.Ns mainGlobals mg → base.NoSeer → FnOk l.prog w K mg base L2.CX0 41 fa fd ["script"] (lift K 1 sp_law) := by
  obtain rfl : fa = f_law := by
    have e := hfa.symm.trans (PySem.W.mg_of X G a_law)
    exact Value.ref.inj (Option.some.inj e)
  have m_abs := PySem.W.mg_none_of X G z_abs
  have m_all := PySem.W.mg_none_of X G z_all
  have m_bool := PySem.W.mg_none_of X G z_bool
  have m_int := PySem.W.mg_none_of X G z_int
  have m_isinstance := PySem.W.mg_none_of X G z_isinstance
  have m_len := PySem.W.mg_none_of X G z_len
  have m_list := PySem.W.mg_none_of X G z_list
  have m_max := PySem.W.mg_none_of X G z_max
  have m_range := PySem.W.mg_none_of X G z_range
  have m_tuple := PySem.W.mg_none_of X G z_tuple
  have g_ONE : Glo K mg "ONE" c_ONE := glo_pair (PySem.W.mg_of X G ga_ONE) gl_ONE rfl rfl
  have g_ZERO : Glo K mg "ZERO" c_ZERO := glo_pair (PySem.W.mg_of X G ga_ZERO) gl_ZERO rfl rfl
  have D_is_whole : Def K mg "is_whole" s_is_whole f_is_whole _ := ⟨⟨⟨_, _, _, _, _, _, _, _, _, _, rfl, l_is_whole, c_is_whole⟩⟩, PySem.W.mg_of X G a_is_whole, k_is_whole⟩
  have B_is_whole := D_is_whole.fn.binds rfl (ps := ["value"]) fun _ _ _ _ _ _ us hl => match us, hl with | [_], _ => rfl
  have D_common : Def K mg "common" s_common f_common _ := ⟨⟨⟨_, _, _, _, _, _, _, _, _, _, rfl, l_common, c_common⟩⟩, PySem.W.mg_of X G a_common, k_common⟩
  have B_common := D_common.fn.binds rfl (ps := ["a", "b"]) fun _ _ _ _ _ _ us hl => match us, hl with | [_, _], _ => rfl
  have D_fraction : Def K mg "fraction" s_fraction f_fraction _ := ⟨⟨⟨_, _, _, _, _, _, _, _, _, _, rfl, l_fraction, c_fraction⟩⟩, PySem.W.mg_of X G a_fraction, k_fraction⟩
  have B_fraction := D_fraction.fn.binds rfl (ps := ["p", "q"]) fun _ _ _ _ _ _ us hl => match us, hl with | [_, _], _ => rfl
  have D_is_fraction : Def K mg "is_fraction" s_is_fraction f_is_fraction _ := ⟨⟨⟨_, _, _, _, _, _, _, _, _, _, rfl, l_is_fraction, c_is_fraction⟩⟩, PySem.W.mg_of X G a_is_fraction, k_is_fraction⟩
  have B_is_fraction := D_is_fraction.fn.binds rfl (ps := ["value"]) fun _ _ _ _ _ _ us hl => match us, hl with | [_], _ => rfl
  have D_plus : Def K mg "plus" s_plus f_plus _ := ⟨⟨⟨_, _, _, _, _, _, _, _, _, _, rfl, l_plus, c_plus⟩⟩, PySem.W.mg_of X G a_plus, k_plus⟩
  have B_plus := D_plus.fn.binds rfl (ps := ["one", "two"]) fun _ _ _ _ _ _ us hl => match us, hl with | [_, _], _ => rfl
  have D_minus : Def K mg "minus" s_minus f_minus _ := ⟨⟨⟨_, _, _, _, _, _, _, _, _, _, rfl, l_minus, c_minus⟩⟩, PySem.W.mg_of X G a_minus, k_minus⟩
  have B_minus := D_minus.fn.binds rfl (ps := ["one", "two"]) fun _ _ _ _ _ _ us hl => match us, hl with | [_, _], _ => rfl
  have D_times : Def K mg "times" s_times f_times _ := ⟨⟨⟨_, _, _, _, _, _, _, _, _, _, rfl, l_times, c_times⟩⟩, PySem.W.mg_of X G a_times, k_times⟩
  have B_times := D_times.fn.binds rfl (ps := ["one", "two"]) fun _ _ _ _ _ _ us hl => match us, hl with | [_, _], _ => rfl
  have D_over : Def K mg "over" s_over f_over _ := ⟨⟨⟨_, _, _, _, _, _, _, _, _, _, rfl, l_over, c_over⟩⟩, PySem.W.mg_of X G a_over, k_over⟩
  have B_over := D_over.fn.binds rfl (ps := ["one", "two"]) fun _ _ _ _ _ _ us hl => match us, hl with | [_, _], _ => rfl
  have D_less : Def K mg "less" s_less f_less _ := ⟨⟨⟨_, _, _, _, _, _, _, _, _, _, rfl, l_less, c_less⟩⟩, PySem.W.mg_of X G a_less, k_less⟩
  have B_less := D_less.fn.binds rfl (ps := ["one", "two"]) fun _ _ _ _ _ _ us hl => match us, hl with | [_, _], _ => rfl
  have D_is_level : Def K mg "is_level" s_is_level f_is_level _ := ⟨⟨⟨_, _, _, _, _, _, _, _, _, _, rfl, l_is_level, c_is_level⟩⟩, PySem.W.mg_of X G a_is_level, k_is_level⟩
  have B_is_level := D_is_level.fn.binds rfl (ps := ["value"]) fun _ _ _ _ _ _ us hl => match us, hl with | [_], _ => rfl
  have D_turn : Def K mg "turn" s_turn f_turn _ := ⟨⟨⟨_, _, _, _, _, _, _, _, _, _, rfl, l_turn, c_turn⟩⟩, PySem.W.mg_of X G a_turn, k_turn⟩
  have B_turn := D_turn.fn.binds rfl (ps := ["place", "x"]) fun _ _ _ _ _ _ us hl => match us, hl with | [_, _], _ => rfl
  have D_lifted : Def K mg "lifted" s_lifted f_lifted _ := ⟨⟨⟨_, _, _, _, _, _, _, _, _, _, rfl, l_lifted, c_lifted⟩⟩, PySem.W.mg_of X G a_lifted, k_lifted⟩
  have B_lifted := D_lifted.fn.binds rfl (ps := ["level", "turned"]) fun _ _ _ _ _ _ us hl => match us, hl with | [_, _], _ => rfl
  have D_lowered : Def K mg "lowered" s_lowered f_lowered _ := ⟨⟨⟨_, _, _, _, _, _, _, _, _, _, rfl, l_lowered, c_lowered⟩⟩, PySem.W.mg_of X G a_lowered, k_lowered⟩
  have B_lowered := D_lowered.fn.binds rfl (ps := ["level", "value"]) fun _ _ _ _ _ _ us hl => match us, hl with | [_, _], _ => rfl
  have D_value_on : Def K mg "value_on" s_value_on f_value_on _ := ⟨⟨⟨_, _, _, _, _, _, _, _, _, _, rfl, l_value_on, c_value_on⟩⟩, PySem.W.mg_of X G a_value_on, k_value_on⟩
  have B_value_on := D_value_on.fn.binds rfl (ps := ["ladder", "x"]) fun _ _ _ _ _ _ us hl => match us, hl with | [_, _], _ => rfl
  have D_is_full : Def K mg "is_full" s_is_full f_is_full _ := ⟨⟨⟨_, _, _, _, _, _, _, _, _, _, rfl, l_is_full, c_is_full⟩⟩, PySem.W.mg_of X G a_is_full, k_is_full⟩
  have B_is_full := D_is_full.fn.binds rfl (ps := ["ladder"]) fun _ _ _ _ _ _ us hl => match us, hl with | [_], _ => rfl
  have D_ladder_of : Def K mg "ladder_of" s_ladder_of f_ladder_of _ := ⟨⟨⟨_, _, _, _, _, _, _, _, _, _, rfl, l_ladder_of, c_ladder_of⟩⟩, PySem.W.mg_of X G a_ladder_of, k_ladder_of⟩
  have B_ladder_of := D_ladder_of.fn.binds rfl (ps := ["points"]) fun _ _ _ _ _ _ us hl => match us, hl with | [_], _ => rfl
  have D_can_be_told : Def K mg "can_be_told" s_can_be_told f_can_be_told _ := ⟨⟨⟨_, _, _, _, _, _, _, _, _, _, rfl, l_can_be_told, c_can_be_told⟩⟩, PySem.W.mg_of X G a_can_be_told, k_can_be_told⟩
  have B_can_be_told := D_can_be_told.fn.binds rfl (ps := ["points"]) fun _ _ _ _ _ _ us hl => match us, hl with | [_], _ => rfl
  have D_ends_at : Def K mg "ends_at" s_ends_at f_ends_at _ := ⟨⟨⟨_, _, _, _, _, _, _, _, _, _, rfl, l_ends_at, c_ends_at⟩⟩, PySem.W.mg_of X G a_ends_at, k_ends_at⟩
  have B_ends_at := D_ends_at.fn.binds rfl (ps := ["points", "place"]) fun _ _ _ _ _ _ us hl => match us, hl with | [_, _], _ => rfl
  have D_range_at : Def K mg "range_at" s_range_at f_range_at _ := ⟨⟨⟨_, _, _, _, _, _, _, _, _, _, rfl, l_range_at, c_range_at⟩⟩, PySem.W.mg_of X G a_range_at, k_range_at⟩
  have B_range_at := D_range_at.fn.binds rfl (ps := ["points", "place"]) fun _ _ _ _ _ _ us hl => match us, hl with | [_, _], _ => rfl
  have D_with_point : Def K mg "with_point" s_with_point f_with_point _ := ⟨⟨⟨_, _, _, _, _, _, _, _, _, _, rfl, l_with_point, c_with_point⟩⟩, PySem.W.mg_of X G a_with_point, k_with_point⟩
  have B_with_point := D_with_point.fn.binds rfl (ps := ["points", "place", "level"]) fun _ _ _ _ _ _ us hl => match us, hl with | [_, _, _], _ => rfl
  have D_Lpool : Def K mg "_law_pool" s_Lpool f_Lpool _ := ⟨⟨⟨_, _, _, _, _, _, _, _, _, _, rfl, l_Lpool, c_Lpool⟩⟩, PySem.W.mg_of X G a_Lpool, k_Lpool⟩
  have B_Lpool := D_Lpool.fn.binds rfl (ps := ["script"]) fun _ _ _ _ _ _ us hl => match us, hl with | [_], _ => rfl
  have D_Lspread : Def K mg "_law_spread" s_Lspread f_Lspread _ := ⟨⟨⟨_, _, _, _, _, _, _, _, _, _, rfl, l_Lspread, c_Lspread⟩⟩, PySem.W.mg_of X G a_Lspread, k_Lspread⟩
  have B_Lspread := D_Lspread.fn.binds rfl (ps := ["cell"]) fun _ _ _ _ _ _ us hl => match us, hl with | [_], _ => rfl
  have D_Ldraw : Def K mg "_law_draw" s_Ldraw f_Ldraw _ := ⟨⟨⟨_, _, _, _, _, _, _, _, _, _, rfl, l_Ldraw, c_Ldraw⟩⟩, PySem.W.mg_of X G a_Ldraw, k_Ldraw⟩
  have B_Ldraw := D_Ldraw.fn.binds rfl (ps := ["pool", "many"]) fun _ _ _ _ _ _ us hl => match us, hl with | [_, _], _ => rfl
  have D_Lgcd : Def K mg "_law_gcd" s_Lgcd f_Lgcd _ := ⟨⟨⟨_, _, _, _, _, _, _, _, _, _, rfl, l_Lgcd, c_Lgcd⟩⟩, PySem.W.mg_of X G a_Lgcd, k_Lgcd⟩
  have B_Lgcd := D_Lgcd.fn.binds rfl (ps := ["a", "b"]) fun _ _ _ _ _ _ us hl => match us, hl with | [_, _], _ => rfl
  have D_Lf : Def K mg "_law_f" s_Lf f_Lf _ := ⟨⟨⟨_, _, _, _, _, _, _, _, _, _, rfl, l_Lf, c_Lf⟩⟩, PySem.W.mg_of X G a_Lf, k_Lf⟩
  have B_Lf := D_Lf.fn.binds rfl (ps := ["a", "d"]) fun _ _ _ _ _ _ us hl => match us, hl with | [_, _], _ => rfl
  have D_Ladd : Def K mg "_law_add" s_Ladd f_Ladd _ := ⟨⟨⟨_, _, _, _, _, _, _, _, _, _, rfl, l_Ladd, c_Ladd⟩⟩, PySem.W.mg_of X G a_Ladd, k_Ladd⟩
  have B_Ladd := D_Ladd.fn.binds rfl (ps := ["x", "y"]) fun _ _ _ _ _ _ us hl => match us, hl with | [_, _], _ => rfl
  have D_Lsub : Def K mg "_law_sub" s_Lsub f_Lsub _ := ⟨⟨⟨_, _, _, _, _, _, _, _, _, _, rfl, l_Lsub, c_Lsub⟩⟩, PySem.W.mg_of X G a_Lsub, k_Lsub⟩
  have B_Lsub := D_Lsub.fn.binds rfl (ps := ["x", "y"]) fun _ _ _ _ _ _ us hl => match us, hl with | [_, _], _ => rfl
  have D_Lmul : Def K mg "_law_mul" s_Lmul f_Lmul _ := ⟨⟨⟨_, _, _, _, _, _, _, _, _, _, rfl, l_Lmul, c_Lmul⟩⟩, PySem.W.mg_of X G a_Lmul, k_Lmul⟩
  have B_Lmul := D_Lmul.fn.binds rfl (ps := ["x", "y"]) fun _ _ _ _ _ _ us hl => match us, hl with | [_, _], _ => rfl
  have D_Ldiv : Def K mg "_law_div" s_Ldiv f_Ldiv _ := ⟨⟨⟨_, _, _, _, _, _, _, _, _, _, rfl, l_Ldiv, c_Ldiv⟩⟩, PySem.W.mg_of X G a_Ldiv, k_Ldiv⟩
  have B_Ldiv := D_Ldiv.fn.binds rfl (ps := ["x", "y"]) fun _ _ _ _ _ _ us hl => match us, hl with | [_, _], _ => rfl
  have D_Lless : Def K mg "_law_less" s_Lless f_Lless _ := ⟨⟨⟨_, _, _, _, _, _, _, _, _, _, rfl, l_Lless, c_Lless⟩⟩, PySem.W.mg_of X G a_Lless, k_Lless⟩
  have B_Lless := D_Lless.fn.binds rfl (ps := ["x", "y"]) fun _ _ _ _ _ _ us hl => match us, hl with | [_, _], _ => rfl
  have D_Lplace : Def K mg "_law_place" s_Lplace f_Lplace _ := ⟨⟨⟨_, _, _, _, _, _, _, _, _, _, rfl, l_Lplace, c_Lplace⟩⟩, PySem.W.mg_of X G a_Lplace, k_Lplace⟩
  have B_Lplace := D_Lplace.fn.binds rfl (ps := ["pool"]) fun _ _ _ _ _ _ us hl => match us, hl with | [_], _ => rfl
  have D_Llevel : Def K mg "_law_level" s_Llevel f_Llevel _ := ⟨⟨⟨_, _, _, _, _, _, _, _, _, _, rfl, l_Llevel, c_Llevel⟩⟩, PySem.W.mg_of X G a_Llevel, k_Llevel⟩
  have B_Llevel := D_Llevel.fn.binds rfl (ps := ["pool"]) fun _ _ _ _ _ _ us hl => match us, hl with | [_], _ => rfl
  have D_Lplaces : Def K mg "_law_places" s_Lplaces f_Lplaces _ := ⟨⟨⟨_, _, _, _, _, _, _, _, _, _, rfl, l_Lplaces, c_Lplaces⟩⟩, PySem.W.mg_of X G a_Lplaces, k_Lplaces⟩
  have B_Lplaces := D_Lplaces.fn.binds rfl (ps := ["pool", "most"]) fun _ _ _ _ _ _ us hl => match us, hl with | [_, _], _ => rfl
  have D_Lladder : Def K mg "_law_ladder" s_Lladder f_Lladder _ := ⟨⟨⟨_, _, _, _, _, _, _, _, _, _, rfl, l_Lladder, c_Lladder⟩⟩, PySem.W.mg_of X G a_Lladder, k_Lladder⟩
  have B_Lladder := D_Lladder.fn.binds rfl (ps := ["pool", "most"]) fun _ _ _ _ _ _ us hl => match us, hl with | [_, _], _ => rfl
  have D_Lswing : Def K mg "_law_swing" s_Lswing f_Lswing _ := ⟨⟨⟨_, _, _, _, _, _, _, _, _, _, rfl, l_Lswing, c_Lswing⟩⟩, PySem.W.mg_of X G a_Lswing, k_Lswing⟩
  have B_Lswing := D_Lswing.fn.binds rfl (ps := ["place", "x"]) fun _ _ _ _ _ _ us hl => match us, hl with | [_, _], _ => rfl
  have D_Llift : Def K mg "_law_lift" s_Llift f_Llift _ := ⟨⟨⟨_, _, _, _, _, _, _, _, _, _, rfl, l_Llift, c_Llift⟩⟩, PySem.W.mg_of X G a_Llift, k_Llift⟩
  have B_Llift := D_Llift.fn.binds rfl (ps := ["level", "t"]) fun _ _ _ _ _ _ us hl => match us, hl with | [_, _], _ => rfl
  have D_Lon : Def K mg "_law_on" s_Lon f_Lon _ := ⟨⟨⟨_, _, _, _, _, _, _, _, _, _, rfl, l_Lon, c_Lon⟩⟩, PySem.W.mg_of X G a_Lon, k_Lon⟩
  have B_Lon := D_Lon.fn.binds rfl (ps := ["ladder", "x"]) fun _ _ _ _ _ _ us hl => match us, hl with | [_, _], _ => rfl
  have D_law : Def K mg "law" s_law fa _ := ⟨⟨⟨_, _, _, _, _, _, _, _, _, _, rfl, l_law, c_law⟩⟩, PySem.W.mg_of X G a_law, k_law⟩
  have B_law := D_law.fn.binds rfl (ps := ["script"]) fun _ _ _ _ _ _ us hl => match us, hl with | [_], _ => rfl
  refine ⟨PySem.W.fnOf "law" "law" (fnArgs s_law) (fnBody s_law) (fnScope s_law) .none kV_law dc_law pm_law an_law cd_law ct_law, fun s v => .of_eq rfl, fun base _ _ hS => ?_⟩
  have h_is_whole := ok_is_whole (P := l.prog) (w := w) (base := base) D_is_whole B_is_whole m_bool m_int m_isinstance
  have h_common := ok_common (P := l.prog) (w := w) (base := base) D_common B_common m_abs
  have h_fraction := ok_fraction (P := l.prog) (w := w) (base := base) D_fraction B_fraction h_common hS hT
  have h_is_fraction := ok_is_fraction (P := l.prog) (w := w) (base := base) D_is_fraction B_is_fraction h_common h_is_whole m_isinstance m_len m_tuple
  have h_plus := ok_plus (P := l.prog) (w := w) (base := base) D_plus B_plus h_fraction
  have h_minus := ok_minus (P := l.prog) (w := w) (base := base) D_minus B_minus h_fraction
  have h_times := ok_times (P := l.prog) (w := w) (base := base) D_times B_times h_fraction
  have h_over := ok_over (P := l.prog) (w := w) (base := base) D_over B_over h_fraction
  have h_less := ok_less (P := l.prog) (w := w) (base := base) D_less B_less 
  have h_is_level := ok_is_level (P := l.prog) (w := w) (base := base) D_is_level B_is_level h_is_fraction
  have h_turn := ok_turn (P := l.prog) (w := w) (base := base) D_turn B_turn h_over h_minus h_times g_ONE
  have h_lifted := ok_lifted (P := l.prog) (w := w) (base := base) D_lifted B_lifted h_over h_plus h_times g_ONE
  have h_lowered := ok_lowered (P := l.prog) (w := w) (base := base) D_lowered B_lowered h_over h_minus h_times g_ONE
  have h_value_on := ok_value_on (P := l.prog) (w := w) (base := base) D_value_on B_value_on h_lifted h_times h_turn
  have h_is_full := ok_is_full (P := l.prog) (w := w) (base := base) D_is_full B_is_full g_ONE
  have h_ladder_of := ok_ladder_of (P := l.prog) (w := w) (base := base) D_ladder_of B_ladder_of h_is_level h_over h_turn h_lowered m_all m_len m_list m_tuple g_ONE g_ZERO
  have h_can_be_told := ok_can_be_told (P := l.prog) (w := w) (base := base) D_can_be_told B_can_be_told h_ladder_of
  have h_ends_at := ok_ends_at (P := l.prog) (w := w) (base := base) D_ends_at B_ends_at h_less h_value_on h_is_full h_ladder_of g_ONE
  have h_range_at := ok_range_at (P := l.prog) (w := w) (base := base) D_range_at B_range_at h_value_on h_ends_at
  have h_with_point := ok_with_point (P := l.prog) (w := w) (base := base) D_with_point B_with_point h_less m_tuple
  have h_Lpool := ok_Lpool (P := l.prog) (w := w) (base := base) D_Lpool B_Lpool m_int m_list
  have h_Lspread := ok_Lspread (P := l.prog) (w := w) (base := base) D_Lspread B_Lspread m_int m_range
  have h_Ldraw := ok_Ldraw (P := l.prog) (w := w) (base := base) D_Ldraw B_Ldraw h_Lspread hS hT m_int m_len
  have h_Lgcd := ok_Lgcd (P := l.prog) (w := w) (base := base) D_Lgcd B_Lgcd m_abs m_int
  have h_Lf := ok_Lf (P := l.prog) (w := w) (base := base) D_Lf B_Lf h_Lgcd hS hT m_max
  have h_Ladd := ok_Ladd (P := l.prog) (w := w) (base := base) D_Ladd B_Ladd h_Lf
  have h_Lsub := ok_Lsub (P := l.prog) (w := w) (base := base) D_Lsub B_Lsub h_Lf
  have h_Lmul := ok_Lmul (P := l.prog) (w := w) (base := base) D_Lmul B_Lmul h_Lf
  have h_Ldiv := ok_Ldiv (P := l.prog) (w := w) (base := base) D_Ldiv B_Ldiv h_Lf
  have h_Lless := ok_Lless (P := l.prog) (w := w) (base := base) D_Lless B_Lless 
  have h_Lplace := ok_Lplace (P := l.prog) (w := w) (base := base) D_Lplace B_Lplace h_Lf h_Ldraw
  have h_Llevel := ok_Llevel (P := l.prog) (w := w) (base := base) D_Llevel B_Llevel h_Lf h_Ldraw
  have h_Lplaces := ok_Lplaces (P := l.prog) (w := w) (base := base) D_Lplaces B_Lplaces h_Lless h_Ldraw h_Lplace m_len m_range
  have h_Lladder := ok_Lladder (P := l.prog) (w := w) (base := base) D_Lladder B_Lladder h_Ldraw h_Llevel h_Lplace m_range m_tuple
  have h_Lswing := ok_Lswing (P := l.prog) (w := w) (base := base) D_Lswing B_Lswing h_Ldiv h_Lsub h_Lmul
  have h_Llift := ok_Llift (P := l.prog) (w := w) (base := base) D_Llift B_Llift h_Ldiv h_Ladd h_Lmul
  have h_Lon := ok_Lon (P := l.prog) (w := w) (base := base) D_Lon B_Lon h_Llift h_Lmul h_Lswing
  exact okf_law D_law.fn h_range_at h_with_point h_Lless h_Lmul h_Ladd h_can_be_told h_Lsub h_Lf h_Ldraw h_Lplace h_Lplaces h_Lon h_Lladder h_Lpool m_range m_tuple
end
end DL
open PySem PySem.W PyProof.Rows
set_option maxHeartbeats 0 in
theorem PySem.Challenge.cw_withinone_k52_whole_middles_of_what_can_holds : PySem.Challenge.rw_withinone_k52_whole_middles_of_what_can.Holds := by
  w_on; o_law; k_head; (case hw => w_witness2)
  k_fill
  refine DL.walk_seen (l := PySem.Challenge.rw_withinone_k52_whole_middles_of_what_can) (n := 63) (k := 41) (x := "script") (CX := fun _ => L2.CX0) (sp := fun w => DL.lift _ 1 DL.sp_law) rfl (by decide) rfl ⟨rfl, by decide, by decide⟩ (by decide +kernel) (fun w h Y => PySem.W.kIn_of Y) ?F (fun _ _ a ns hl h0 hS => DL.law_lift h0 hl hS) (fun _ _ _ _ _ h => h)
  case F =>
    intro w mg fa h KX G hmg
    refine' DL.all_mk KX G hmg rfl ?a_is_whole ?l_is_whole ?c_is_whole ?k_is_whole ?a_common ?l_common ?c_common ?k_common ?a_fraction ?l_fraction ?c_fraction ?k_fraction ?a_is_fraction ?l_is_fraction ?c_is_fraction ?k_is_fraction ?a_plus ?l_plus ?c_plus ?k_plus ?a_minus ?l_minus ?c_minus ?k_minus ?a_times ?l_times ?c_times ?k_times ?a_over ?l_over ?c_over ?k_over ?a_less ?l_less ?c_less ?k_less ?a_is_level ?l_is_level ?c_is_level ?k_is_level ?a_turn ?l_turn ?c_turn ?k_turn ?a_lifted ?l_lifted ?c_lifted ?k_lifted ?a_lowered ?l_lowered ?c_lowered ?k_lowered ?a_value_on ?l_value_on ?c_value_on ?k_value_on ?a_is_full ?l_is_full ?c_is_full ?k_is_full ?a_ladder_of ?l_ladder_of ?c_ladder_of ?k_ladder_of ?a_can_be_told ?l_can_be_told ?c_can_be_told ?k_can_be_told ?a_ends_at ?l_ends_at ?c_ends_at ?k_ends_at ?a_range_at ?l_range_at ?c_range_at ?k_range_at ?a_with_point ?l_with_point ?c_with_point ?k_with_point ?a_Lpool ?l_Lpool ?c_Lpool ?k_Lpool ?a_Lspread ?l_Lspread ?c_Lspread ?k_Lspread ?a_Ldraw ?l_Ldraw ?c_Ldraw ?k_Ldraw ?a_Lgcd ?l_Lgcd ?c_Lgcd ?k_Lgcd ?a_Lf ?l_Lf ?c_Lf ?k_Lf ?a_Ladd ?l_Ladd ?c_Ladd ?k_Ladd ?a_Lsub ?l_Lsub ?c_Lsub ?k_Lsub ?a_Lmul ?l_Lmul ?c_Lmul ?k_Lmul ?a_Ldiv ?l_Ldiv ?c_Ldiv ?k_Ldiv ?a_Lless ?l_Lless ?c_Lless ?k_Lless ?a_Lplace ?l_Lplace ?c_Lplace ?k_Lplace ?a_Llevel ?l_Llevel ?c_Llevel ?k_Llevel ?a_Lplaces ?l_Lplaces ?c_Lplaces ?k_Lplaces ?a_Lladder ?l_Lladder ?c_Lladder ?k_Lladder ?a_Lswing ?l_Lswing ?c_Lswing ?k_Lswing ?a_Llift ?l_Llift ?c_Llift ?k_Llift ?a_Lon ?l_Lon ?c_Lon ?k_Lon ?a_law ?l_law ?c_law ?k_law ?z_abs ?z_all ?z_bool ?z_int ?z_isinstance ?z_len ?z_list ?z_max ?z_range ?z_tuple ?ga_ONE ?gl_ONE ?ga_ZERO ?gl_ZERO
    (case a_is_whole => k_is); (case l_is_whole => k_is); (case c_is_whole => k_is); (case k_is_whole => k_is); (case a_common => k_is); (case l_common => k_is); (case c_common => k_is); (case k_common => k_is); (case a_fraction => k_is); (case l_fraction => k_is); (case c_fraction => k_is); (case k_fraction => k_is)
    (case a_is_fraction => k_is); (case l_is_fraction => k_is); (case c_is_fraction => k_is); (case k_is_fraction => k_is); (case a_plus => k_is); (case l_plus => k_is); (case c_plus => k_is); (case k_plus => k_is); (case a_minus => k_is); (case l_minus => k_is); (case c_minus => k_is); (case k_minus => k_is)
    (case a_times => k_is); (case l_times => k_is); (case c_times => k_is); (case k_times => k_is); (case a_over => k_is); (case l_over => k_is); (case c_over => k_is); (case k_over => k_is); (case a_less => k_is); (case l_less => k_is); (case c_less => k_is); (case k_less => k_is)
    (case a_is_level => k_is); (case l_is_level => k_is); (case c_is_level => k_is); (case k_is_level => k_is); (case a_turn => k_is); (case l_turn => k_is); (case c_turn => k_is); (case k_turn => k_is); (case a_lifted => k_is); (case l_lifted => k_is); (case c_lifted => k_is); (case k_lifted => k_is)
    (case a_lowered => k_is); (case l_lowered => k_is); (case c_lowered => k_is); (case k_lowered => k_is); (case a_value_on => k_is); (case l_value_on => k_is); (case c_value_on => k_is); (case k_value_on => k_is); (case a_is_full => k_is); (case l_is_full => k_is); (case c_is_full => k_is); (case k_is_full => k_is)
    (case a_ladder_of => k_is); (case l_ladder_of => k_is); (case c_ladder_of => k_is); (case k_ladder_of => k_is); (case a_can_be_told => k_is); (case l_can_be_told => k_is); (case c_can_be_told => k_is); (case k_can_be_told => k_is); (case a_ends_at => k_is); (case l_ends_at => k_is); (case c_ends_at => k_is); (case k_ends_at => k_is)
    (case a_range_at => k_is); (case l_range_at => k_is); (case c_range_at => k_is); (case k_range_at => k_is); (case a_with_point => k_is); (case l_with_point => k_is); (case c_with_point => k_is); (case k_with_point => k_is); (case a_Lpool => k_is); (case l_Lpool => k_is); (case c_Lpool => k_is); (case k_Lpool => k_is)
    (case a_Lspread => k_is); (case l_Lspread => k_is); (case c_Lspread => k_is); (case k_Lspread => k_is); (case a_Ldraw => k_is); (case l_Ldraw => k_is); (case c_Ldraw => k_is); (case k_Ldraw => k_is); (case a_Lgcd => k_is); (case l_Lgcd => k_is); (case c_Lgcd => k_is); (case k_Lgcd => k_is)
    (case a_Lf => k_is); (case l_Lf => k_is); (case c_Lf => k_is); (case k_Lf => k_is); (case a_Ladd => k_is); (case l_Ladd => k_is); (case c_Ladd => k_is); (case k_Ladd => k_is); (case a_Lsub => k_is); (case l_Lsub => k_is); (case c_Lsub => k_is); (case k_Lsub => k_is)
    (case a_Lmul => k_is); (case l_Lmul => k_is); (case c_Lmul => k_is); (case k_Lmul => k_is); (case a_Ldiv => k_is); (case l_Ldiv => k_is); (case c_Ldiv => k_is); (case k_Ldiv => k_is); (case a_Lless => k_is); (case l_Lless => k_is); (case c_Lless => k_is); (case k_Lless => k_is)
    (case a_Lplace => k_is); (case l_Lplace => k_is); (case c_Lplace => k_is); (case k_Lplace => k_is); (case a_Llevel => k_is); (case l_Llevel => k_is); (case c_Llevel => k_is); (case k_Llevel => k_is); (case a_Lplaces => k_is); (case l_Lplaces => k_is); (case c_Lplaces => k_is); (case k_Lplaces => k_is)
    (case a_Lladder => k_is); (case l_Lladder => k_is); (case c_Lladder => k_is); (case k_Lladder => k_is); (case a_Lswing => k_is); (case l_Lswing => k_is); (case c_Lswing => k_is); (case k_Lswing => k_is); (case a_Llift => k_is); (case l_Llift => k_is); (case c_Llift => k_is); (case k_Llift => k_is)
    (case a_Lon => k_is); (case l_Lon => k_is); (case c_Lon => k_is); (case k_Lon => k_is); (case a_law => k_is); (case l_law => k_is); (case c_law => k_is); (case k_law => k_is); (case z_abs => k_is); (case z_all => k_is); (case z_bool => k_is); (case z_int => k_is)
    (case z_isinstance => k_is); (case z_len => k_is); (case z_list => k_is); (case z_max => k_is); (case z_range => k_is); (case z_tuple => k_is); (case ga_ONE => k_is); (case gl_ONE => k_is); (case ga_ZERO => k_is); (case gl_ZERO => k_is)

