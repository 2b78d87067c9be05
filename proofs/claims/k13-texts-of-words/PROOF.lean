import PyProof.Rows.All
import Wide.All
import OpenK.AllK
import Wide.FinOn
import HandS.ForMost
import HandS.WordsExc
import HandS.TupAny
import HandS.TupMul
import HandS.Wide
import HandS.IsInst
import HandS.Replace
import HandS.Deep
import HandS.Style
import HandS.Zip
import HandS.RaiseMore
import HandS.Defaults
import HandS.HeadHook2
import HandS.Text
import HandS.Strs
import HandS.MapObj
import HandS.Dict
import PyProof.SeqIndex
import PyProof.Rows.StrRev
import HandS.Exc
import HandS.ExcInit
import KE.KExcIs
import HandS.Ends
import KE.KStateDown
import HandS.More
import HandS.Words
import HandS.Head0
import HandS.Head1
import HandS.Head2
import HandS.HeadHook1
import PyProof.FitsInt
import PyProof.ReprBulk
import PySem.Challenge.RW_wordhandfuls_k13_whole_texts_of_words
import Lean
set_option Elab.async false
set_option linter.all false
set_option maxRecDepth 100000
set_option maxHeartbeats 2000000
namespace DL
open PySem PySem.Spec PyProof.Rows L2

/-! ## data -/
inductive D where
  | non | bl (b : Bool) | int (i : Int) | str (x : Str) | tup (xs : List D) | lst (xs : List D) | ro (xs : List D) | dic (ks : List Key) (xs : List D)

/-- what a value is, frozen: no list of it is among the owned ones W -/
def KL (K : PySem.W.Frag) (a : Addr) (vs : List V) : Prop := SqL K (fun _ => none) a vs
def LsF (W : List Addr) (H : Hp) (a : Addr) (vs : List V) : Prop := H a = some (.lst vs) ∧ a ∉ W
/-- a list that nobody may write: the script, one of the module's -/
def RoF (K : PySem.W.Frag) (H : Hp) (a : Addr) (vs : List V) : Prop := (∃ o, H a = some (.frz o (.lst vs))) ∨ KL K a vs
mutual
def Rp (W : List Addr) (K : PySem.W.Frag) (H : Hp) : D → V → Prop
  | .non, v => v = .non
  | .bl b, v => v = .bl b
  | .int i, v => v = .int i
  | .str x, v => v = .str x
  | .tup xs, v => ∃ a vs, v = .ref a ∧ SqT K H a vs ∧ RpL W K H xs vs
  | .lst xs, v => ∃ a vs, v = .ref a ∧ LsF W H a vs ∧ RpL W K H xs vs
  | .ro xs, v => ∃ a vs, v = .ref a ∧ RoF K H a vs ∧ RpL W K H xs vs
  | .dic ks xs, v => ∃ (a : Addr) (kvs : List (Key × V)), v = .ref a ∧ (H a = some (.dK kvs) ∧ a ∉ W) ∧ kvs.map (·.1) = ks ∧ RpL W K H xs (kvs.map (·.2))
def RpL (W : List Addr) (K : PySem.W.Frag) (H : Hp) : List D → List V → Prop
  | [], vs => vs = []
  | d :: ds, vs => ∃ v r, vs = v :: r ∧ Rp W K H d v ∧ RpL W K H ds r
end

theorem KL.seq {K : PySem.W.Frag} {H : Hp} {a : Addr} {vs : List V} (h : KL K a vs) : SqL K H a vs := by
  rcases h with (h | ⟨o, h⟩) | h
  · cases h
  · cases h
  · exact .inr h
theorem LsF.seq {W : List Addr} {K : PySem.W.Frag} {H : Hp} {a : Addr} {vs : List V} (h : LsF W H a vs) : SqL K H a vs := .of h.1
theorem RoF.seq {K : PySem.W.Frag} {H : Hp} {a : Addr} {vs : List V} (h : RoF K H a vs) : SqL K H a vs := by
  rcases h with h | h
  · exact .inl (.inr h)
  · exact h.seq

section
variable {W W' : List Addr} {K : PySem.W.Frag} {H H' : Hp}
theorem RpL.length : ∀ {ds : List D} {vs : List V}, RpL W K H ds vs → ds.length = vs.length
  | [], vs, h => by have e : vs = [] := h; subst e; rfl
  | d :: ds, vs, h => by
    obtain ⟨v, r, e, _, h2⟩ := h
    rw [e, List.length_cons, List.length_cons, RpL.length h2]
theorem RpL.get : ∀ {ds : List D} {vs : List V} {i : Nat} {d : D}, RpL W K H ds vs → ds[i]? = some d → ∃ v, vs[i]? = some v ∧ Rp W K H d v
  | [], _, _, _, _, e => by simp at e
  | d :: ds, vs, i, x, h, e => by
    obtain ⟨v, r, rfl, h1, h2⟩ := h
    cases i with
    | zero => simp at e; subst e; exact ⟨v, rfl, h1⟩
    | succ i =>
      obtain ⟨u, hu, r2⟩ := RpL.get (i := i) h2 (by simpa using e)
      exact ⟨u, by simpa using hu, r2⟩
theorem RpL.getV : ∀ {ds : List D} {vs : List V} {i : Nat} {v : V}, RpL W K H ds vs → vs[i]? = some v → ∃ d, ds[i]? = some d ∧ Rp W K H d v
  | [], vs, i, v, h, e => by have z : vs = [] := h; subst z; simp at e
  | d :: ds, vs, i, x, h, e => by
    obtain ⟨v, r, rfl, h1, h2⟩ := h
    cases i with
    | zero => simp at e; subst e; exact ⟨d, rfl, h1⟩
    | succ i =>
      obtain ⟨u, hu, r2⟩ := RpL.getV (i := i) h2 (by simpa using e)
      exact ⟨u, by simpa using hu, r2⟩
theorem RpL.append : ∀ {ds es : List D} {vs us : List V}, RpL W K H ds vs → RpL W K H es us → RpL W K H (ds ++ es) (vs ++ us)
  | [], es, vs, us, h, q => by have e : vs = [] := h; subst e; exact q
  | d :: ds, es, vs, us, h, q => by
    obtain ⟨v, r, rfl, h1, h2⟩ := h
    exact ⟨v, r ++ us, rfl, h1, RpL.append h2 q⟩
theorem RpL.one {d : D} {v : V} (h : Rp W K H d v) : RpL W K H [d] [v] := ⟨v, [], rfl, h, rfl⟩
theorem RpL.take : ∀ (n : Nat) {ds : List D} {vs : List V}, RpL W K H ds vs → RpL W K H (ds.take n) (vs.take n)
  | 0, _, _, _ => rfl
  | n + 1, [], vs, h => by have e : vs = [] := h; subst e; rfl
  | n + 1, d :: ds, vs, h => by
    obtain ⟨v, r, rfl, h1, h2⟩ := h
    exact ⟨v, r.take n, rfl, h1, RpL.take n h2⟩
theorem RpL.drop : ∀ (n : Nat) {ds : List D} {vs : List V}, RpL W K H ds vs → RpL W K H (ds.drop n) (vs.drop n)
  | 0, _, _, h => h
  | n + 1, [], vs, h => by have e : vs = [] := h; subst e; rfl
  | n + 1, d :: ds, vs, h => by
    obtain ⟨v, r, rfl, h1, h2⟩ := h
    exact RpL.drop n h2
theorem RpL.reverse : ∀ {ds : List D} {vs : List V}, RpL W K H ds vs → RpL W K H ds.reverse vs.reverse
  | [], vs, h => by have e : vs = [] := h; subst e; rfl
  | d :: ds, vs, h => by
    obtain ⟨v, r, rfl, h1, h2⟩ := h
    rw [List.reverse_cons, List.reverse_cons]
    exact (RpL.reverse h2).append (.one h1)
theorem RpL.set : ∀ {ds : List D} {vs : List V} (i : Nat) {d : D} {v : V}, RpL W K H ds vs → Rp W K H d v → RpL W K H (ds.set i d) (vs.set i v)
  | [], vs, i, d, v, h, _ => by have e : vs = [] := h; subst e; exact rfl
  | x :: ds, vs, i, d, v, h, q => by
    obtain ⟨y, r, rfl, h1, h2⟩ := h
    cases i with
    | zero => exact ⟨v, r, rfl, q, h2⟩
    | succ i => exact ⟨y, r.set i v, rfl, h1, RpL.set i h2 q⟩
theorem RpL.eraseIdx : ∀ {ds : List D} {vs : List V} (i : Nat), RpL W K H ds vs → RpL W K H (ds.eraseIdx i) (vs.eraseIdx i)
  | [], vs, i, h => by have e : vs = [] := h; subst e; exact rfl
  | x :: ds, vs, i, h => by
    obtain ⟨y, r, rfl, h1, h2⟩ := h
    cases i with
    | zero => exact h2
    | succ i => exact ⟨y, r.eraseIdx i, rfl, h1, RpL.eraseIdx i h2⟩

/-- from W, H to W', H': what is not owned stands, and stays not owned -/
structure Ex (W : List Addr) (H : Hp) (W' : List Addr) (H' : Hp) : Prop where
  wm : ∀ a ∈ W, Mut (H a)
  keep : ∀ a o, H a = some o → a ∉ W → H' a = some o ∧ a ∉ W'
theorem Ex.refl (m : ∀ a ∈ W, Mut (H a)) : Ex W H W H := ⟨m, fun _ _ e n => ⟨e, n⟩⟩
theorem Ex.rd (x : Ex W H W' H') {a : Addr} {o : HO} (nm : ¬ Mut (some o)) (h : Rd H a o) : Rd H' a o := by
  rcases h with h | ⟨ob, h⟩
  · refine .inl (x.keep a _ h fun hw => nm ?_).1
    have := x.wm a hw
    rw [h] at this
    exact this
  · refine .inr ⟨ob, (x.keep a _ h fun hw => ?_).1⟩
    have := x.wm a hw
    rw [h] at this
    exact this
theorem Ex.sqT (x : Ex W H W' H') {a : Addr} {vs : List V} (h : SqT K H a vs) : SqT K H' a vs := by
  rcases h with h | h
  · exact .inl (x.rd (fun z => z) h)
  · exact .inr h
theorem Ex.lsF (x : Ex W H W' H') {a : Addr} {vs : List V} (h : LsF W H a vs) : LsF W' H' a vs := x.keep a _ h.1 h.2
theorem Ex.roF (x : Ex W H W' H') {a : Addr} {vs : List V} (h : RoF K H a vs) : RoF K H' a vs := by
  rcases h with ⟨o, h⟩ | h
  · refine .inl ⟨o, (x.keep a _ h fun hw => ?_).1⟩
    have := x.wm a hw
    rw [h] at this
    exact this
  · exact .inr h
mutual
theorem Rp.mono (x : Ex W H W' H') : ∀ (d : D) {v : V}, Rp W K H d v → Rp W' K H' d v
  | .non, _, h => h
  | .bl _, _, h => h
  | .int _, _, h => h
  | .str _, _, h => h
  | .tup xs, _, ⟨a, vs, e, h1, h2⟩ => ⟨a, vs, e, x.sqT h1, RpL.mono x xs h2⟩
  | .lst xs, _, ⟨a, vs, e, h1, h2⟩ => ⟨a, vs, e, x.lsF h1, RpL.mono x xs h2⟩
  | .ro xs, _, ⟨a, vs, e, h1, h2⟩ => ⟨a, vs, e, x.roF h1, RpL.mono x xs h2⟩
  | .dic ks xs, _, ⟨a, kvs, e, h1, h2, h3⟩ => ⟨a, kvs, e, x.keep a _ h1.1 h1.2, h2, RpL.mono x xs h3⟩
theorem RpL.mono (x : Ex W H W' H') : ∀ (ds : List D) {vs : List V}, RpL W K H ds vs → RpL W' K H' ds vs
  | [], _, h => h
  | d :: ds, _, ⟨v, r, e, h1, h2⟩ => ⟨v, r, e, Rp.mono x d h1, RpL.mono x ds h2⟩
end
end
end DL

set_option maxHeartbeats 2000000
namespace DL
open PySem PySem.Spec PyProof.Rows L2

abbrev St := L2.St
/-! ## what a name holds: frozen data, or an owned list of frozen data -/
inductive S where
  | d (x : D) | lst (xs : List D)
@[simp] def S.own : S → Bool
  | .d _ => false
  | .lst _ => true
@[simp] def S.view : S → D
  | .d x => x
  | .lst xs => .lst xs
abbrev En := List (Option S)
def RS (W : List Addr) (K : PySem.W.Frag) (H : Hp) : S → V → Prop
  | .d x, v => Rp W K H x v
  | .lst xs, v => ∃ a vs, v = .ref a ∧ a ∈ W ∧ H a = some (.lst vs) ∧ RpL W K H xs vs
def Ow (σ : St) (e : En) (a : Addr) : Prop := ∃ (i : Nat) (s : S), e[i]? = some (some s) ∧ s.own = true ∧ σ[i]? = some (some (.ref a))
structure SR (W : List Addr) (K : PySem.W.Frag) (H : Hp) (σ : St) (e : En) : Prop where
  wm : ∀ a ∈ W, Mut (H a)
  len : e.length = σ.length
  sl : ∀ (i : Nat) (s : S), e[i]? = some (some s) → ∃ v, σ[i]? = some (some v) ∧ RS W K H s v
  one : ∀ (i j : Nat) (s t : S) (a : Addr), e[i]? = some (some s) → e[j]? = some (some t) → s.own = true → t.own = true → σ[i]? = some (some (.ref a)) → σ[j]? = some (some (.ref a)) → i = j

theorem isSome_of_mut {o : Option HO} (h : Mut o) : o ≠ none := by
  cases o with
  | none => exact h.elim
  | some o => exact fun z => nomatch z

section
variable {W W' W1 W2 : List Addr} {K : PySem.W.Frag} {H H' H1 H2 : Hp} {σ σ' σ1 σ2 : St} {e e' e1 e2 : En}
theorem SR.ow (r : SR W K H σ e) {a : Addr} (o : Ow σ e a) : a ∈ W := by
  obtain ⟨i, s, h1, h2, h3⟩ := o
  obtain ⟨v, e1, q⟩ := r.sl i s h1
  rw [h3] at e1
  cases e1
  cases s with
  | d x => cases h2
  | lst xs =>
    obtain ⟨b, vs, z, hb, _⟩ := q
    cases z
    exact hb
theorem SR.thr (r : SR W K H σ e) {a : Addr} (h : a ∈ W) : H a ≠ none := isSome_of_mut (r.wm a h)

/-- the heap grows, nothing is changed -/
structure Grow (W : List Addr) (H : Hp) (W' : List Addr) (H' : Hp) : Prop where
  keep : ∀ a o, H a = some o → H' a = some o
  sub : ∀ a ∈ W, a ∈ W'
  new : ∀ a ∈ W', a ∈ W ∨ H a = none
  wm : ∀ a ∈ W', Mut (H' a)
theorem Grow.refl (m : ∀ a ∈ W, Mut (H a)) : Grow W H W H := ⟨fun _ _ h => h, fun _ h => h, fun _ h => .inl h, m⟩
theorem Grow.fresh (g : Grow W H W' H') {a : Addr} (h : H' a = none) : H a = none := by
  cases q : H a with
  | none => rfl
  | some o => rw [g.keep a o q] at h; cases h
theorem Grow.trans (g : Grow W H W1 H1) (k : Grow W1 H1 W2 H2) : Grow W H W2 H2 where
  keep := fun a o h => k.keep a o (g.keep a o h)
  sub := fun a h => k.sub a (g.sub a h)
  new := fun a h => by
    rcases k.new a h with z | z
    · exact g.new a z
    · exact .inr (g.fresh z)
  wm := k.wm
theorem Grow.ex (g : Grow W H W' H') (m : ∀ a ∈ W, Mut (H a)) : Ex W H W' H' where
  wm := m
  keep := fun a o h n => ⟨g.keep a o h, fun z => (g.new a z).elim n fun z => by rw [h] at z; cases z⟩
theorem Grow.rs (g : Grow W H W' H') (m : ∀ a ∈ W, Mut (H a)) : ∀ {s : S} {v : V}, RS W K H s v → RS W' K H' s v
  | .d x, v, h => Rp.mono (g.ex m) x h
  | .lst xs, v, ⟨a, vs, e, h1, h2, h3⟩ => ⟨a, vs, e, g.sub a h1, g.keep a _ h2, RpL.mono (g.ex m) xs h3⟩
theorem Grow.sr (g : Grow W H W' H') (r : SR W K H σ e) : SR W' K H' σ e where
  wm := g.wm
  len := r.len
  sl := fun i s h => let ⟨v, h1, h2⟩ := r.sl i s h; ⟨v, h1, g.rs r.wm h2⟩
  one := r.one
/-- a heap that grows without owned new ones -/
theorem Grow.of (m : ∀ a ∈ W, Mut (H a)) (k : ∀ a o, H a = some o → H' a = some o) : Grow W H W H' :=
  ⟨k, fun _ h => h, fun _ h => .inl h, fun a h => by
    have q := m a h
    cases z : H a with
    | none => rw [z] at q; exact q.elim
    | some o => rw [k a o z, ← z]; exact q⟩
theorem upd_keep {a : Addr} {o : HO} (hn : H a = none) : ∀ b u, H b = some u → upd H a o b = some u := fun b u h => by
  rw [upd_ne (ne_of_none h hn)]
  exact h
/-- a new owned list -/
theorem Grow.lst (m : ∀ a ∈ W, Mut (H a)) {p : Addr} {vs : List V} (hn : H p = none) : Grow W H (p :: W) (upd H p (.lst vs)) where
  keep := upd_keep hn
  sub := fun a h => List.mem_cons_of_mem _ h
  new := fun a h => by
    rcases List.mem_cons.mp h with rfl | h
    · exact .inr hn
    · exact .inl h
  wm := fun a h => by
    rcases List.mem_cons.mp h with rfl | h
    · rw [upd_same]; trivial
    · have q := m a h
      by_cases z : a = p
      · subst z; rw [upd_same]; trivial
      · rw [upd_ne z]; exact q

/-- what code may do: what no name of the frame owns stands; frozen things stay frozen, others' owned ones owned -/
structure EX (W : List Addr) (H : Hp) (σ : St) (e : En) (W' : List Addr) (H' : Hp) (σ' : St) (e' : En) : Prop where
  keep : ∀ a o, H a = some o → ¬ Ow σ e a → H' a = some o
  frz : ∀ a o, H a = some o → a ∉ W → a ∉ W'
  tmp : ∀ a ∈ W, ¬ Ow σ e a → a ∈ W' ∧ ¬ Ow σ' e' a
  sub : ∀ a, Ow σ' e' a → Ow σ e a ∨ H a = none
  dom : ∀ a, H' a = none → H a = none
theorem EX.refl : EX W H σ e W H σ e := ⟨fun _ _ h _ => h, fun _ _ _ n => n, fun _ h n => ⟨h, n⟩, fun _ h => .inl h, fun _ h => h⟩
theorem EX.trans (x : EX W H σ e W1 H1 σ1 e1) (y : EX W1 H1 σ1 e1 W2 H2 σ2 e2) : EX W H σ e W2 H2 σ2 e2 where
  keep := fun a o h n => y.keep a o (x.keep a o h n) fun z => (x.sub a z).elim n fun z => by rw [h] at z; cases z
  frz := fun a o h n => by
    by_cases q : Ow σ e a
    · cases z : H1 a with
      | some o1 => exact y.frz a o1 z (x.frz a o h n)
      | none => rw [x.dom a z] at h; cases h
    · exact y.frz a o (x.keep a o h q) (x.frz a o h n)
  tmp := fun a h n => let ⟨h1, n1⟩ := x.tmp a h n; y.tmp a h1 n1
  sub := fun a h => by
    rcases y.sub a h with z | z
    · exact x.sub a z
    · exact .inr (x.dom a z)
  dom := fun a h => x.dom a (y.dom a h)
theorem Grow.fx (g : Grow W H W' H') (r : SR W K H σ e) : EX W H σ e W' H' σ e where
  keep := fun a o h _ => g.keep a o h
  frz := fun a o h n => (g.ex r.wm).keep a o h n |>.2
  tmp := fun a h n => ⟨g.sub a h, n⟩
  sub := fun a h => .inl h
  dom := fun a h => g.fresh h
theorem EX.ex (x : EX W H σ e W' H' σ' e') (r : SR W K H σ e) : Ex W H W' H' where
  wm := r.wm
  keep := fun a o h n => ⟨x.keep a o h fun z => n (r.ow z), x.frz a o h n⟩

/-! ## results -/
inductive RV where
  | fz (x : D) | fr (xs : List D) | ow (xs : List D)
@[simp] def RV.view : RV → D
  | .fz x => x
  | .fr xs => .lst xs
  | .ow xs => .lst xs
/-- H: ahead of the evaluation -/
def RVok (W' : List Addr) (K : PySem.W.Frag) (H H' : Hp) : RV → V → Prop
  | .fz x, v => Rp W' K H' x v
  | .fr xs, v => ∃ a vs, v = .ref a ∧ H a = none ∧ a ∈ W' ∧ H' a = some (.lst vs) ∧ RpL W' K H' xs vs
  | .ow xs, v => ∃ a vs, v = .ref a ∧ a ∈ W' ∧ H' a = some (.lst vs) ∧ RpL W' K H' xs vs
/-- an operand: the list itself may be anyone's, what it holds is frozen -/
def Vz (W : List Addr) (K : PySem.W.Frag) (H : Hp) : D → V → Prop
  | .lst xs, v => ∃ a vs, v = .ref a ∧ H a = some (.lst vs) ∧ RpL W K H xs vs
  | .ro xs, v => ∃ a vs, v = .ref a ∧ RoF K H a vs ∧ RpL W K H xs vs
  | .non, v => v = .non
  | .bl b, v => v = .bl b
  | .int i, v => v = .int i
  | .str x, v => v = .str x
  | .tup xs, v => ∃ a vs, v = .ref a ∧ SqT K H a vs ∧ RpL W K H xs vs
  | .dic ks xs, v => ∃ (a : Addr) (kvs : List (Key × V)), v = .ref a ∧ H a = some (.dK kvs) ∧ kvs.map (·.1) = ks ∧ RpL W K H xs (kvs.map (·.2))
theorem Vz.of : ∀ {x : D} {v : V}, Rp W K H x v → Vz W K H x v
  | .non, _, h => h
  | .bl _, _, h => h
  | .int _, _, h => h
  | .str _, _, h => h
  | .tup _, _, h => h
  | .lst _, _, ⟨a, vs, e, h1, h2⟩ => ⟨a, vs, e, h1.1, h2⟩
  | .ro _, _, h => h
  | .dic _ _, _, ⟨a, kvs, e, h1, h2, h3⟩ => ⟨a, kvs, e, h1.1, h2, h3⟩
theorem RVok.vz : ∀ {r : RV} {v : V}, RVok W' K H H' r v → Vz W' K H' r.view v
  | .fz x, v, h => .of h
  | .fr xs, v, ⟨a, vs, e, _, _, h, q⟩ => ⟨a, vs, e, h, q⟩
  | .ow xs, v, ⟨a, vs, e, _, h, q⟩ => ⟨a, vs, e, h, q⟩
theorem seqKeep {a : Addr} {vs : List V} (k : ∀ a o, H a = some o → H' a = some o) (h : SqL K H a vs) : SqL K H' a vs := by
  rcases h with (h | ⟨o, h⟩) | h
  · exact .inl (.inl (k _ _ h))
  · exact .inl (.inr ⟨o, k _ _ h⟩)
  · exact .inr h
theorem Vz.grow (g : Grow W H W' H') (m : ∀ a ∈ W, Mut (H a)) : ∀ {x : D} {v : V}, Vz W K H x v → Vz W' K H' x v
  | .non, _, h => h
  | .bl _, _, h => h
  | .int _, _, h => h
  | .str _, _, h => h
  | .tup xs, _, h => Vz.of (x := .tup xs) (Rp.mono (g.ex m) (.tup xs) h)
  | .dic ks xs, _, ⟨a, kvs, e, h1, h2, h3⟩ => ⟨a, kvs, e, g.keep a _ h1, h2, RpL.mono (g.ex m) xs h3⟩
  | .ro xs, _, h => Vz.of (x := .ro xs) (Rp.mono (g.ex m) (.ro xs) h)
  | .lst xs, _, ⟨a, vs, e, h1, h2⟩ => ⟨a, vs, e, g.keep a _ h1, RpL.mono (g.ex m) xs h2⟩
theorem RVok.grow (g : Grow W1 H1 W2 H2) (m : ∀ a ∈ W1, Mut (H1 a)) : ∀ {r : RV} {v : V}, RVok W1 K H H1 r v → RVok W2 K H H2 r v
  | .fz x, v, h => Rp.mono (g.ex m) x h
  | .fr xs, v, ⟨a, vs, e, h0, h1, h, q⟩ => ⟨a, vs, e, h0, g.sub a h1, g.keep a _ h, RpL.mono (g.ex m) xs q⟩
  | .ow xs, v, ⟨a, vs, e, h1, h, q⟩ => ⟨a, vs, e, g.sub a h1, g.keep a _ h, RpL.mono (g.ex m) xs q⟩
theorem RVok.back (k : ∀ a, H1 a = none → H a = none) : ∀ {r : RV} {v : V}, RVok W' K H1 H' r v → RVok W' K H H' r v
  | .fz _, _, h => h
  | .fr _, _, ⟨a, vs, e, h0, h⟩ => ⟨a, vs, e, k a h0, h⟩
  | .ow _, _, h => h
end

/-! ## expressions that change nothing -/
abbrev FP := En → Option RV
def tP (K : PySem.W.Frag) (f : FP) : TE := fun σ H Q => ∃ (W : List Addr) (e : En) (r : RV), SR W K H σ e ∧ f e = some r ∧ ∀ v W' H', Grow W H W' H' → RVok W' K H H' r v → Q v H'
structure PP (X : Cx) (ex : Expr) (f : FP) : Prop where
  pe : PE X ex (tP X.K f)
theorem PP.of {X : Cx} {ex : Expr} {f : FP} (h : ∃ t : TE, PE X ex t ∧ ∀ (W : List Addr) (H : Hp) (σ : St) (e : En) (Q : VK) (r : RV), SR W X.K H σ e → f e = some r →
    (∀ v W' H', Grow W H W' H' → RVok W' X.K H H' r v → Q v H') → t σ H Q) : PP X ex f :=
  let ⟨_, p, k⟩ := h; ⟨⟨fun pins s σ H Q I ⟨W, e, r, a, b, c⟩ => p.run pins s σ H Q I (k W H σ e Q r a b c)⟩⟩
theorem PP.run {X : Cx} {ex : Expr} {f : FP} (h : PP X ex f) : ∃ t : TE, PE X ex t ∧ ∀ (W : List Addr) (H : Hp) (σ : St) (e : En) (Q : VK) (r : RV), SR W X.K H σ e → f e = some r →
    (∀ v W' H', Grow W H W' H' → RVok W' X.K H H' r v → Q v H') → t σ H Q := ⟨_, h.pe, fun W H σ e Q r a b c => ⟨W, e, r, a, b, c⟩⟩
/-- tests -/
abbrev FT := En → Option Bool
def tT (K : PySem.W.Frag) (f : FT) : TT := fun σ H Q => ∃ (W : List Addr) (e : En) (b : Bool), SR W K H σ e ∧ f e = some b ∧ ∀ W' H', Grow W H W' H' → Q b H'
structure TP (X : Cx) (ex : Expr) (f : FT) : Prop where
  pt : PT X ex (tT X.K f)
theorem TP.of {X : Cx} {ex : Expr} {f : FT} (h : ∃ t : TT, PT X ex t ∧ ∀ (W : List Addr) (H : Hp) (σ : St) (e : En) (Q : Bool → Hp → Prop) (b : Bool), SR W X.K H σ e → f e = some b →
    (∀ W' H', Grow W H W' H' → Q b H') → t σ H Q) : TP X ex f :=
  let ⟨_, p, k⟩ := h; ⟨⟨fun pins s σ H Q I ⟨W, e, r, a, b, c⟩ => p.run pins s σ H Q I (k W H σ e Q r a b c)⟩⟩
theorem TP.run {X : Cx} {ex : Expr} {f : FT} (h : TP X ex f) : ∃ t : TT, PT X ex t ∧ ∀ (W : List Addr) (H : Hp) (σ : St) (e : En) (Q : Bool → Hp → Prop) (b : Bool), SR W X.K H σ e → f e = some b →
    (∀ W' H', Grow W H W' H' → Q b H') → t σ H Q := ⟨_, h.pt, fun W H σ e Q r a b c => ⟨W, e, r, a, b, c⟩⟩
/-- an argument list -/
def RVs (W' : List Addr) (K : PySem.W.Frag) (H H' : Hp) : List RV → List V → Prop
  | [], vs => vs = []
  | r :: rs, vs => ∃ v us, vs = v :: us ∧ RVok W' K H H' r v ∧ RVs W' K H H' rs us
abbrev FA := En → Option (List RV)
def tA (K : PySem.W.Frag) (f : FA) : TA := fun σ H Q => ∃ (W : List Addr) (e : En) (rs : List RV), SR W K H σ e ∧ f e = some rs ∧ ∀ vs W' H', Grow W H W' H' → RVs W' K H H' rs vs → Q vs H'
structure PPs (X : Cx) (es : List Expr) (f : FA) : Prop where
  pa : PA X es (tA X.K f)
theorem PPs.of {X : Cx} {es : List Expr} {f : FA} (h : ∃ t : TA, PA X es t ∧ ∀ (W : List Addr) (H : Hp) (σ : St) (e : En) (Q : List V → Hp → Prop) (rs : List RV), SR W X.K H σ e → f e = some rs →
    (∀ vs W' H', Grow W H W' H' → RVs W' X.K H H' rs vs → Q vs H') → t σ H Q) : PPs X es f :=
  let ⟨_, p, k⟩ := h; ⟨⟨fun pos pins s σ H Q I ⟨W, e, r, a, b, c⟩ => p.run pos pins s σ H Q I (k W H σ e Q r a b c)⟩⟩
theorem PPs.run {X : Cx} {es : List Expr} {f : FA} (h : PPs X es f) : ∃ t : TA, PA X es t ∧ ∀ (W : List Addr) (H : Hp) (σ : St) (e : En) (Q : List V → Hp → Prop) (rs : List RV), SR W X.K H σ e → f e = some rs →
    (∀ vs W' H', Grow W H W' H' → RVs W' X.K H H' rs vs → Q vs H') → t σ H Q := ⟨_, h.pa, fun W H σ e Q r a b c => ⟨W, e, r, a, b, c⟩⟩
section
variable {W W1 W2 W' : List Addr} {K : PySem.W.Frag} {H H1 H2 H' : Hp}
theorem RVs.grow (g : Grow W1 H1 W2 H2) (m : ∀ a ∈ W1, Mut (H1 a)) : ∀ {rs : List RV} {vs : List V}, RVs W1 K H H1 rs vs → RVs W2 K H H2 rs vs
  | [], _, h => h
  | r :: rs, _, ⟨v, us, e, h1, h2⟩ => ⟨v, us, e, h1.grow g m, RVs.grow g m h2⟩
theorem RVs.back (k : ∀ a, H1 a = none → H a = none) : ∀ {rs : List RV} {vs : List V}, RVs W' K H1 H' rs vs → RVs W' K H H' rs vs
  | [], _, h => h
  | r :: rs, _, ⟨v, us, e, h1, h2⟩ => ⟨v, us, e, h1.back k, RVs.back k h2⟩
end

/-! ## effects, exceptions -/
/-- an exception: its class's name, its fields -/
structure XD where
  cls : Str
  fs : List (Str × D)
inductive Out where
  | stuck | ok (s : S) (e : En) | ex (x : XD) (e : En)
/-- the exception x lies as cls, d -/
def XR (mg : Str → Option Value) (W : List Addr) (K : PySem.W.Frag) (H : Hp) (x : XD) (cls : Value) (d : Option Addr) : Prop :=
  mg x.cls = some cls ∧ ((x.fs = [] ∧ d = none) ∨ ∃ dd fv, d = some dd ∧ H dd = some (.xd fv) ∧ fv.map (·.1) = x.fs.map (·.1) ∧ RpL W K H (x.fs.map (·.2)) (fv.map (·.2)))
def OutK (K : PySem.W.Frag) (mg : Str → Option Value) (Wx : WX) (W : List Addr) (H : Hp) (σ : St) (e : En) (Q : VK) : Out → Prop
  | .stuck => False
  | .ok s e' => ∀ v W' H', SR W' K H' σ e' → EX W H σ e W' H' σ e' → RS W' K H' s v → (s.own = true → ∀ a, v = .ref a → H a = none ∧ ¬ Ow σ e' a) → Q v H'
  | .ex x e' => ∀ cls d W' H', SR W' K H' σ e' → EX W H σ e W' H' σ e' → XR mg W' K H' x cls d → Wx cls d σ H'
abbrev FM := En → Out
def tM (K : PySem.W.Frag) (mg : Str → Option Value) (Wx : WX) (f : FM) : TE := fun σ H Q => ∃ (W : List Addr) (e : En), SR W K H σ e ∧ OutK K mg Wx W H σ e Q (f e)
structure PM (X : Cx) (Wx : WX) (ex : Expr) (f : FM) : Prop where
  pe : PE X ex (tM X.K X.mg Wx f)
theorem PM.of {X : Cx} {Wx : WX} {ex : Expr} {f : FM} (h : ∃ t : TE, PE X ex t ∧ ∀ (W : List Addr) (H : Hp) (σ : St) (e : En) (Q : VK), SR W X.K H σ e → OutK X.K X.mg Wx W H σ e Q (f e) → t σ H Q) : PM X Wx ex f :=
  let ⟨_, p, k⟩ := h; ⟨⟨fun pins s σ H Q I ⟨W, e, a, b⟩ => p.run pins s σ H Q I (k W H σ e Q a b)⟩⟩
theorem PM.run {X : Cx} {Wx : WX} {ex : Expr} {f : FM} (h : PM X Wx ex f) : ∃ t : TE, PE X ex t ∧ ∀ (W : List Addr) (H : Hp) (σ : St) (e : En) (Q : VK), SR W X.K H σ e → OutK X.K X.mg Wx W H σ e Q (f e) → t σ H Q :=
  ⟨_, h.pe, fun W H σ e Q a b => ⟨W, e, a, b⟩⟩

/-! ## statements -/
inductive Fl where
  | stuck | nx (e : En) | rt (s : S) (e : En) | bk (e : En) | ct (e : En) | ex (x : XD) (e : En)
/-- lk: slots that stand -/
def FlK (K : PySem.W.Frag) (mg : Str → Option Value) (Wx : WX) (lk : List Nat) (W : List Addr) (H : Hp) (σ : St) (e : En) (D : Ends) : Fl → Prop
  | .stuck => False
  | .nx e' => ∀ W' H' σ', SR W' K H' σ' e' → EX W H σ e W' H' σ' e' → (∀ i ∈ lk, σ'[i]? = σ[i]?) → D.nx σ' H'
  | .bk e' => ∀ W' H' σ', SR W' K H' σ' e' → EX W H σ e W' H' σ' e' → (∀ i ∈ lk, σ'[i]? = σ[i]?) → D.bk σ' H'
  | .ct e' => ∀ W' H' σ', SR W' K H' σ' e' → EX W H σ e W' H' σ' e' → (∀ i ∈ lk, σ'[i]? = σ[i]?) → D.ct σ' H'
  | .rt s e' => ∀ v W' H' σ', SR W' K H' σ' e' → EX W H σ e W' H' σ' e' → (∀ i ∈ lk, σ'[i]? = σ[i]?) → RS W' K H' s v →
      (s.own = true → ∀ a, v = .ref a → ¬ Ow σ' e' a ∧ (Ow σ e a ∨ H a = none)) → D.rt v H'
  | .ex x e' => ∀ cls d W' H' σ', SR W' K H' σ' e' → EX W H σ e W' H' σ' e' → (∀ i ∈ lk, σ'[i]? = σ[i]?) → XR mg W' K H' x cls d → Wx cls d σ' H'
abbrev FS := En → Fl
def tS (K : PySem.W.Frag) (mg : Str → Option Value) (Wx : WX) (lk : List Nat) (f : FS) : TS := fun D σ H => ∃ (W : List Addr) (e : En), SR W K H σ e ∧ FlK K mg Wx lk W H σ e D (f e)
structure SD (X : Cx) (Wx : WX) (lk : List Nat) (st : Stmt) (f : FS) : Prop where
  ps : PS X st (tS X.K X.mg Wx lk f)
structure SDs (X : Cx) (Wx : WX) (lk : List Nat) (st : List Stmt) (f : FS) : Prop where
  ps : PSs X st (tS X.K X.mg Wx lk f)
theorem SD.of {X : Cx} {Wx : WX} {lk : List Nat} {st : Stmt} {f : FS} (h : ∃ t : TS, PS X st t ∧ ∀ (W : List Addr) (H : Hp) (σ : St) (e : En) (D : Ends), SR W X.K H σ e → FlK X.K X.mg Wx lk W H σ e D (f e) → t D σ H) : SD X Wx lk st f :=
  let ⟨_, p, k⟩ := h; ⟨⟨fun pins s σ H D I ⟨W, e, a, b⟩ => p.run pins s σ H D I (k W H σ e D a b)⟩⟩
theorem SD.run {X : Cx} {Wx : WX} {lk : List Nat} {st : Stmt} {f : FS} (h : SD X Wx lk st f) : ∃ t : TS, PS X st t ∧ ∀ (W : List Addr) (H : Hp) (σ : St) (e : En) (D : Ends), SR W X.K H σ e → FlK X.K X.mg Wx lk W H σ e D (f e) → t D σ H :=
  ⟨_, h.ps, fun W H σ e D a b => ⟨W, e, a, b⟩⟩
theorem SDs.of {X : Cx} {Wx : WX} {lk : List Nat} {st : List Stmt} {f : FS} (h : ∃ t : TS, PSs X st t ∧ ∀ (W : List Addr) (H : Hp) (σ : St) (e : En) (D : Ends), SR W X.K H σ e → FlK X.K X.mg Wx lk W H σ e D (f e) → t D σ H) : SDs X Wx lk st f :=
  let ⟨_, p, k⟩ := h; ⟨⟨fun pins s σ H D I ⟨W, e, a, b⟩ => p.run pins s σ H D I (k W H σ e D a b)⟩⟩
theorem SDs.run {X : Cx} {Wx : WX} {lk : List Nat} {st : List Stmt} {f : FS} (h : SDs X Wx lk st f) : ∃ t : TS, PSs X st t ∧ ∀ (W : List Addr) (H : Hp) (σ : St) (e : En) (D : Ends), SR W X.K H σ e → FlK X.K X.mg Wx lk W H σ e D (f e) → t D σ H :=
  ⟨_, h.ps, fun W H σ e D a b => ⟨W, e, a, b⟩⟩
end DL

set_option maxHeartbeats 2000000
namespace DL
open PySem PySem.Spec PyProof.Rows L2

def SZ : Nat := 16777216
theorem SZ_eq : sizeLine = SZ := sizeLine_eq

/-! ## operations by data -/
abbrev KQ (W : List Addr) (K : PySem.W.Frag) (H : Hp) (r : RV) (Q : VK) : Prop := ∀ v W' H', Grow W H W' H' → RVok W' K H H' r v → Q v H'
abbrev WM (W : List Addr) (H : Hp) : Prop := ∀ a ∈ W, Mut (H a)
structure Op2 (X : Cx) (f : Value → Value → Sem Value) (g : D → D → Option RV) : Prop where
  run : ∃ rl : R2, OpR X f rl ∧ ∀ (W : List Addr) (H : Hp) (x y : V) (dx dy : D) (r : RV) (Q : VK), WM W H → Vz W X.K H dx x → Vz W X.K H dy y → g dx dy = some r → KQ W X.K H r Q → rl x y H Q
structure Op1 (X : Cx) (f : Value → Sem Value) (g : D → Option RV) : Prop where
  run : ∃ rl : V → Hp → VK → Prop, UnR X f rl ∧ ∀ (W : List Addr) (H : Hp) (x : V) (dx : D) (r : RV) (Q : VK), WM W H → Vz W X.K H dx x → g dx = some r → KQ W X.K H r Q → rl x H Q

section
variable {W : List Addr} {K : PySem.W.Frag} {H : Hp} {r : RV} {Q : VK}
/-- an answer that needs no heap -/
theorem KQ.fz {x : D} {v : V} (wm : WM W H) (k : KQ W K H (.fz x) Q) (h : Rp W K H x v) : Q v H := k v W H (.refl wm) h
/-- a new list -/
theorem KQ.fr {xs : List D} {vs : List V} (wm : WM W H) (k : KQ W K H (.fr xs) Q) (h : RpL W K H xs vs) : ∀ p, H p = none → Q (.ref p) (upd H p (.lst vs)) := fun p hn =>
  k (.ref p) (p :: W) _ (.lst wm hn) ⟨p, vs, rfl, hn, List.mem_cons_self, upd_same, RpL.mono ((Grow.lst wm hn).ex wm) xs h⟩
/-- a new tuple -/
theorem Grow.tup (wm : WM W H) {p : Addr} {o : HO} (hn : H p = none) : Grow W H W (upd H p o) := .of wm (upd_keep hn)
theorem KQ.tup {xs : List D} {vs : List V} (wm : WM W H) (k : KQ W K H (.fz (.tup xs)) Q) (h : RpL W K H xs vs) : ∀ p, H p = none → Q (.ref p) (upd H p (.tup vs)) := fun p hn =>
  k (.ref p) W _ (.tup wm hn) ⟨p, vs, rfl, .of upd_same, RpL.mono ((Grow.tup wm hn).ex wm) xs h⟩
end

section
variable {X : Cx}
@[simp] def gAdd : D → D → Option RV
  | .int i, .int j => some (.fz (.int (i + j)))
  | .str x, .str y => if x.length + y.length ≤ SZ then some (.fz (.str (x ++ y))) else none
  | .tup xs, .tup ys => if xs.length + ys.length ≤ SZ then some (.fz (.tup (xs ++ ys))) else none
  | .lst xs, .lst ys => if xs.length + ys.length ≤ SZ then some (.fr (xs ++ ys)) else none
  | _, _ => none
theorem o_add : Op2 X (binaryOp .Add) gAdd := by
  refine ⟨_, op_add.or (op_add_str.or (op_catA.or op_cat)), fun W H x y dx dy r Q wm hx hy hg k => ?_⟩
  unfold gAdd at hg
  split at hg
  · cases hg
    exact .inl ⟨_, _, hx, hy, k.fz wm rfl⟩
  · split at hg
    · rename_i hz
      cases hg
      exact .inr (.inl ⟨_, _, hx, hy, by rw [SZ_eq]; exact hz, k.fz wm rfl⟩)
    · cases hg
  · split at hg
    · rename_i xs ys hz
      cases hg
      obtain ⟨a, vs, e1, h1, r1⟩ := hx
      obtain ⟨b, us, e2, h2, r2⟩ := hy
      refine .inr (.inr (.inl ⟨a, b, vs, us, e1, e2, h1, h2, by rw [SZ_eq, ← r1.length, ← r2.length]; exact hz, fun e => ?_, fun _ e => ?_, fun _ _ => k.tup wm (r1.append r2)⟩))
      · subst e
        have z : xs = [] := List.eq_nil_of_length_eq_zero r1.length
        subst z
        exact k.fz wm ⟨b, us, rfl, h2, r2⟩
      · subst e
        have z : ys = [] := List.eq_nil_of_length_eq_zero r2.length
        subst z
        exact k.fz wm ⟨a, vs, rfl, h1, by rw [List.append_nil]; exact r1⟩
    · cases hg
  · split at hg
    · rename_i xs ys hz
      cases hg
      obtain ⟨a, vs, e1, h1, r1⟩ := hx
      obtain ⟨b, us, e2, h2, r2⟩ := hy
      exact .inr (.inr (.inr ⟨a, b, vs, us, e1, e2, h1, h2, by rw [SZ_eq, ← r1.length, ← r2.length]; exact hz, k.fr wm (r1.append r2)⟩))
    · cases hg
  · cases hg
@[simp] def gSub : D → D → Option RV
  | .int i, .int j => some (.fz (.int (i - j)))
  | _, _ => none
theorem o_sub : Op2 X (binaryOp .Sub) gSub := by
  refine ⟨_, op_sub, fun W H x y dx dy r Q wm hx hy hg k => ?_⟩
  unfold gSub at hg
  split at hg
  · cases hg
    exact ⟨_, _, hx, hy, k.fz wm rfl⟩
  · cases hg

theorem RpL.rep {W : List Addr} {K : PySem.W.Frag} {H : Hp} {ds : List D} {vs : List V} (h : RpL W K H ds vs) : ∀ k : Nat, RpL W K H (List.replicate k ds).flatten (List.replicate k vs).flatten
  | 0 => rfl
  | k + 1 => by
    rw [List.replicate_succ, List.replicate_succ, List.flatten_cons, List.flatten_cons]
    exact h.append (RpL.rep h k)
def repS (z : Str) (n : Nat) : Str := ⟨(List.replicate n z.cps).foldl (· ++ ·) #[]⟩
theorem repS_len (z : Str) : ∀ (n : Nat) (acc : Array Nat), ((List.replicate n z.cps).foldl (· ++ ·) acc).size = acc.size + n * z.length
  | 0, acc => by simp
  | n + 1, acc => by
    rw [List.replicate_succ, List.foldl_cons, repS_len z n, Array.size_append]
    show acc.size + z.length + n * z.length = acc.size + (n + 1) * z.length
    rw [Nat.succ_mul]
    omega
def rRepS : R2 := fun x y H Q => ∃ (z : Str) (k : Int), x = .str z ∧ y = .int k ∧ 2 ≤ k ∧ k ≤ 1000 ∧ 1 ≤ z.length ∧ z.length ≤ 1000 ∧ Q (.str (repS z k.toNat)) H
theorem op_repS : OpR X (binaryOp .Mult) rRepS := by
  intro pins s σ H x y v u Q I rx ry h
  obtain ⟨z, k, rfl, rfl, h1, h2, h3, h4, q⟩ := h
  obtain ⟨t, rfl⟩ := rx
  obtain ⟨t', rfl⟩ := ry
  have m1 : z.length * k.toNat ≤ 1000 * 1000 := Nat.mul_le_mul h4 (by omega)
  have e1 : (k == 1 || z.length == 0) = false := by
    rw [Bool.or_eq_false_iff]
    exact ⟨beq_eq_false_iff_ne.mpr (by omega), beq_eq_false_iff_ne.mpr (by omega)⟩
  refine PySem.P.mul_str (by rw [decide_eq_false (by omega), decide_eq_false (by omega)]; rfl) (fun _ _ q => ?_) (fun _ _ => ?_) ?_
  · have h5 : (z.length : Int) ≤ (2 ^ 63 - 1) / k := (Int.le_ediv_iff_mul_le (by omega)).mpr (by
      have h6 : (z.length : Int) * k ≤ 1000 * 1000 := Int.mul_le_mul (by omega) h2 (by omega) (by omega)
      omega)
    omega
  · unfold Builtin.Str.tooLong
    exact decide_eq_false (by rw [sizeLine_eq]; omega)
  · rw [if_neg (by omega), e1]
    have hz : (repS z k.toNat).length ≤ sizeLine := by
      show ((List.replicate k.toNat z.cps).foldl (· ++ ·) #[]).size ≤ sizeLine
      rw [repS_len, sizeLine_eq]
      have : k.toNat * z.length = z.length * k.toNat := Nat.mul_comm _ _
      simp
      omega
    exact ⟨hz, .str _, H, I.tok _, ⟨_, rfl⟩, q⟩
def gMul : D → D → Option RV
  | .str z, .int k => if 2 ≤ k ∧ k ≤ 1000 ∧ 1 ≤ z.length ∧ z.length ≤ 1000 then some (.fz (.str (repS z k.toNat))) else none
  | .int i, .int j => if i.natAbs.log2 + j.natAbs.log2 < 1000000 then some (.fz (.int (i * j))) else none
  | .lst xs, .int k => if -(2 ^ 63) ≤ k ∧ k < 2 ^ 63 ∧ xs.length * k.toNat ≤ SZ then some (.fr (List.replicate k.toNat xs).flatten) else none
  | .tup xs, .int k => if xs ≠ [] ∧ 2 ≤ k ∧ k ≤ 1000 ∧ xs.length ≤ 1000 then some (.fz (.tup (List.replicate k.toNat xs).flatten)) else none
  | _, _ => none
theorem o_mul : Op2 X (binaryOp .Mult) gMul := by
  refine ⟨_, op_mulW.or (op_rep.or (op_repT.or op_repS)), fun W H x y dx dy r Q wm hx hy hg k => ?_⟩
  unfold gMul at hg
  split at hg
  · split at hg
    · rename_i hz
      cases hg
      exact .inr (.inr (.inr ⟨_, _, hx, hy, hz.1, hz.2.1, hz.2.2.1, hz.2.2.2, k.fz wm rfl⟩))
    · cases hg
  · split at hg
    · rename_i hz
      cases hg
      exact .inl ⟨_, _, hx, hy, hz, k.fz wm rfl⟩
    · cases hg
  · split at hg
    · rename_i xs n hz
      cases hg
      obtain ⟨a, vs, e1, h1, r1⟩ := hx
      exact .inr (.inl ⟨a, n, vs, e1, hy, h1, hz.1, hz.2.1, by rw [SZ_eq, ← r1.length]; exact hz.2.2, k.fr wm (r1.rep _)⟩)
    · cases hg
  · split at hg
    · rename_i xs n hz
      cases hg
      obtain ⟨a, vs, e1, h1, r1⟩ := hx
      refine .inr (.inr (.inl ⟨a, n, vs, e1, hy, h1, fun e => ?_, hz.2.1, hz.2.2.1, by rw [← r1.length]; exact hz.2.2.2, k.tup wm (r1.rep _)⟩))
      subst e
      exact hz.1 (List.eq_nil_of_length_eq_zero r1.length)
    · cases hg
  · cases hg
@[simp] def gMod : D → D → Option RV
  | .int i, .int j => if 0 < j then some (.fz (.int (i % j))) else none
  | _, _ => none
theorem o_mod : Op2 X (binaryOp .Mod) gMod := by
  refine ⟨_, op_mod, fun W H x y dx dy r Q wm hx hy hg k => ?_⟩
  unfold gMod at hg
  split at hg
  · split at hg
    · rename_i hz
      cases hg
      exact ⟨_, _, hx, hy, hz, k.fz wm rfl⟩
    · cases hg
  · cases hg
@[simp] def gFdiv : D → D → Option RV
  | .int i, .int j => if 0 < j ∧ j.natAbs.log2 < 9000 then some (.fz (.int (i / j))) else none
  | _, _ => none
theorem o_fdiv : Op2 X (binaryOp .FloorDiv) gFdiv := by
  refine ⟨_, op_fdivW, fun W H x y dx dy r Q wm hx hy hg k => ?_⟩
  unfold gFdiv at hg
  split at hg
  · split at hg
    · rename_i hz
      cases hg
      exact ⟨_, _, hx, hy, hz, k.fz wm rfl⟩
    · cases hg
  · cases hg
@[simp] def gPow : D → D → Option RV
  | .int i, .int j => if 0 ≤ j ∧ j ≤ 1000000 ∧ i.natAbs < 2 ^ 64 then some (.fz (.int (i ^ j.toNat))) else none
  | _, _ => none
theorem o_pow : Op2 X (binaryOp .Pow) gPow := by
  refine ⟨_, op_pow, fun W H x y dx dy r Q wm hx hy hg k => ?_⟩
  unfold gPow at hg
  split at hg
  · split at hg
    · rename_i hz
      cases hg
      exact ⟨_, _, hx, hy, hz, k.fz wm rfl⟩
    · cases hg
  · cases hg
@[simp] def gNeg : D → Option RV
  | .int i => some (.fz (.int (-i)))
  | _ => none
theorem o_neg : Op1 X (unaryOp .USub) gNeg := by
  refine ⟨_, un_neg, fun W H x dx r Q wm hx hg k => ?_⟩
  unfold gNeg at hg
  split at hg
  · cases hg
    exact ⟨_, hx, k.fz wm rfl⟩
  · cases hg

/-! ### order of ints -/
@[simp] def gCmp (p : Int → Int → Bool) : D → D → Option RV
  | .int i, .int j => some (.fz (.bl (p i j)))
  | _, _ => none
theorem o_cmp {op : CmpOp} {p : Int → Int → Bool} (h : OpR X (compareOp op) (rI0 fun i j => .bl (p i j))) : Op2 X (compareOp op) (gCmp p) := by
  refine ⟨_, h, fun W H x y dx dy r Q wm hx hy hg k => ?_⟩
  unfold gCmp at hg
  split at hg
  · cases hg
    exact ⟨_, _, hx, hy, k.fz wm rfl⟩
  · cases hg
abbrev gLt := gCmp fun i j => decide (i < j)
abbrev gLe := gCmp fun i j => decide (i ≤ j)
abbrev gGt := gCmp fun i j => decide (j < i)
abbrev gGe := gCmp fun i j => decide (j ≤ i)
theorem o_lt : Op2 X (compareOp .Lt) gLt := o_cmp op_lt
theorem o_le : Op2 X (compareOp .LtE) gLe := o_cmp op_le
theorem o_gt : Op2 X (compareOp .Gt) gGt := o_cmp op_gt
theorem o_ge : Op2 X (compareOp .GtE) gGe := o_cmp op_ge

/-! ### equality -/
mutual
def _root_.DL.D.py : D → PyData
  | .non => .none
  | .bl b => .bool b
  | .int i => .int i
  | .str x => .str x
  | .tup xs => .tuple (pyL xs)
  | .lst xs => .list (pyL xs)
  | .ro xs => .list (pyL xs)
  | .dic _ _ => .dict []
def _root_.DL.pyL : List D → List PyData
  | [] => []
  | d :: ds => d.py :: pyL ds
end
mutual
def _root_.DL.D.okp : D → Bool
  | .non => true
  | .bl _ => true
  | .int _ => true
  | .str _ => true
  | .tup xs => okpL xs
  | .lst xs => okpL xs
  | .ro xs => okpL xs
  | .dic _ _ => false
def _root_.DL.okpL : List D → Bool
  | [] => true
  | d :: ds => d.okp && okpL ds
end
mutual
theorem _root_.DL.Rp.dp {W : List Addr} {K : PySem.W.Frag} {H : Hp} : ∀ (d : D) {v : V}, d.okp = true → Rp W K H d v → Dp K H v d.py
  | .non, v, _, h => by cases (show v = .non from h); exact .non
  | .bl b, v, _, h => by cases (show v = .bl b from h); exact .bl b
  | .int i, v, _, h => by cases (show v = .int i from h); exact .int i
  | .str x, v, _, h => by cases (show v = .str x from h); exact .str x
  | .tup xs, _, o, ⟨a, vs, e, h1, h2⟩ => by subst e; exact .tup h1 (RpL.dp xs o h2)
  | .lst xs, _, o, ⟨a, vs, e, h1, h2⟩ => by subst e; exact .lst h1.seq (RpL.dp xs o h2)
  | .ro xs, _, o, ⟨a, vs, e, h1, h2⟩ => by subst e; exact .lst h1.seq (RpL.dp xs o h2)
theorem _root_.DL.RpL.dp {W : List Addr} {K : PySem.W.Frag} {H : Hp} : ∀ (ds : List D) {vs : List V}, okpL ds = true → RpL W K H ds vs → DpAll K H vs (pyL ds)
  | [], vs, _, h => by cases (show vs = [] from h); exact .nil
  | d :: ds, _, o, ⟨v, r, e, h1, h2⟩ => by
    subst e
    obtain ⟨o1, o2⟩ := Bool.and_eq_true_iff.mp (show (d.okp && okpL ds) = true from o)
    exact .cons (Rp.dp d o1 h1) (RpL.dp ds o2 h2)
end
theorem Vz.dp {W : List Addr} {K : PySem.W.Frag} {H : Hp} : ∀ {d : D} {v : V}, d.okp = true → Vz W K H d v → Dp K H v d.py
  | .non, _, o, h => Rp.dp (W := W) .non o h
  | .bl b, _, o, h => Rp.dp (W := W) (.bl b) o h
  | .int i, _, o, h => Rp.dp (W := W) (.int i) o h
  | .str x, _, o, h => Rp.dp (W := W) (.str x) o h
  | .tup xs, _, o, h => Rp.dp (W := W) (.tup xs) o h
  | .ro xs, _, o, h => Rp.dp (W := W) (.ro xs) o h
  | .lst xs, _, o, ⟨a, vs, e, h1, h2⟩ => by subst e; exact .lst (.of h1) (RpL.dp xs o h2)
def eqb (x y : D) : Bool := PyData.eqv x.py y.py
def eqok (x : D) : Bool := x.okp && SeqAt.shaped x.py
def gEq (x y : D) : Option RV := if eqok x = true ∧ eqok y = true then some (.fz (.bl (eqb x y))) else none
def gNe (x y : D) : Option RV := if eqok x = true ∧ eqok y = true then some (.fz (.bl (!eqb x y))) else none
theorem o_eq (hu : X.A.units + 64 < cLine) : Op2 X (compareOp .Eq) gEq := by
  refine ⟨_, op_eqD hu, fun W H x y dx dy r Q wm hx hy hg k => ?_⟩
  unfold gEq at hg
  split at hg
  · rename_i hz
    cases hg
    obtain ⟨a1, a2⟩ := Bool.and_eq_true_iff.mp (show (dx.okp && SeqAt.shaped dx.py) = true from hz.1)
    obtain ⟨b1, b2⟩ := Bool.and_eq_true_iff.mp (show (dy.okp && SeqAt.shaped dy.py) = true from hz.2)
    exact ⟨_, _, hx.dp a1, hy.dp b1, a2, b2, k.fz wm rfl⟩
  · cases hg
theorem o_ne (hu : X.A.units + 64 < cLine) : Op2 X (compareOp .NotEq) gNe := by
  refine ⟨_, op_neD hu, fun W H x y dx dy r Q wm hx hy hg k => ?_⟩
  unfold gNe at hg
  split at hg
  · rename_i hz
    cases hg
    obtain ⟨a1, a2⟩ := Bool.and_eq_true_iff.mp (show (dx.okp && SeqAt.shaped dx.py) = true from hz.1)
    obtain ⟨b1, b2⟩ := Bool.and_eq_true_iff.mp (show (dy.okp && SeqAt.shaped dy.py) = true from hz.2)
    exact ⟨_, _, hx.dp a1, hy.dp b1, a2, b2, k.fz wm rfl⟩
  · cases hg

/-! ### in; is None -/
def occ (x z : Str) : Bool := match x.cps.toList with
  | [c] => decide (c ∈ z.cps.toList)
  | _ => !(Builtin.Str.occurrences z x 0 z.length 1).isEmpty
def inb (x : D) (ys : List D) : Bool := (pyL ys).any fun z => PyData.eqv z x.py
def gInL (n : Bool) (x : D) (ys : List D) : Option RV := if eqok x = true ∧ eqok (.lst ys) = true then some (.fz (.bl (if n = true then !inb x ys else inb x ys))) else none
def gInS (n : Bool) (z : Str) : D → Option RV
  | .str x => some (.fz (.bl (if n = true then !occ x z else occ x z)))
  | _ => none
def gInW (n : Bool) (x : D) : D → Option RV
  | .str z => gInS n z x
  | .lst ys => gInL n x ys
  | .ro ys => gInL n x ys
  | _ => none
abbrev gIn := gInW false
abbrev gNotIn := gInW true
theorem str_one {x : Str} {c : Nat} (h : x.cps.toList = [c]) : x = ⟨#[c]⟩ := by
  obtain ⟨a⟩ := x
  have e : a = #[c] := by rw [← Array.toArray_toList (xs := a), show a.toList = [c] from h]
  rw [e]
theorem o_in (hu : X.A.units + 65 < cLine) : Op2 X (compareOp .In) gIn := by
  refine ⟨_, op_in_sign.or (op_in_str.or (op_inD hu)), fun W H x y dx dy r Q wm hx hy hg k => ?_⟩
  cases dy with
  | str z =>
    have hg : gInS false z dx = some r := hg
    cases dx with
    | str s =>
      cases hg
      simp only [Bool.false_eq_true, if_false] at k
      unfold occ at k
      split at k
      · rename_i c hc
        have e := str_one hc
        subst e
        exact .inl ⟨_, _, hx, hy, k.fz wm rfl⟩
      · exact .inr (.inl ⟨_, _, hx, hy, k.fz wm rfl⟩)
    | _ => cases hg
  | lst ys =>
    have hg : gInL false dx ys = some r := hg
    unfold gInL at hg
    split at hg
    · rename_i hz
      cases hg
      obtain ⟨a1, a2⟩ := Bool.and_eq_true_iff.mp (show (dx.okp && SeqAt.shaped dx.py) = true from hz.1)
      obtain ⟨b1, b2⟩ := Bool.and_eq_true_iff.mp (show ((D.lst ys).okp && SeqAt.shaped (D.lst ys).py) = true from hz.2)
      exact .inr (.inr ⟨_, _, hx.dp a1, Vz.dp (d := .lst ys) b1 hy, a2, b2, k.fz wm rfl⟩)
    · cases hg
  | ro ys =>
    have hg : gInL false dx ys = some r := hg
    unfold gInL at hg
    split at hg
    · rename_i hz
      cases hg
      obtain ⟨a1, a2⟩ := Bool.and_eq_true_iff.mp (show (dx.okp && SeqAt.shaped dx.py) = true from hz.1)
      obtain ⟨b1, b2⟩ := Bool.and_eq_true_iff.mp (show ((D.lst ys).okp && SeqAt.shaped (D.lst ys).py) = true from hz.2)
      exact .inr (.inr ⟨_, _, hx.dp a1, Vz.dp (d := .ro ys) b1 hy, a2, b2, k.fz wm rfl⟩)
    · cases hg
  | _ => cases hg
theorem o_notIn (hu : X.A.units + 65 < cLine) : Op2 X (compareOp .NotIn) gNotIn := by
  refine ⟨_, op_notIn_sign.or (op_notIn_str.or (op_notInD hu)), fun W H x y dx dy r Q wm hx hy hg k => ?_⟩
  cases dy with
  | str z =>
    have hg : gInS true z dx = some r := hg
    cases dx with
    | str s =>
      cases hg
      simp only [if_true] at k
      unfold occ at k
      split at k
      · rename_i c hc
        have e := str_one hc
        subst e
        exact .inl ⟨_, _, hx, hy, k.fz wm rfl⟩
      · exact .inr (.inl ⟨_, _, hx, hy, k.fz wm rfl⟩)
    | _ => cases hg
  | lst ys =>
    have hg : gInL true dx ys = some r := hg
    unfold gInL at hg
    split at hg
    · rename_i hz
      cases hg
      obtain ⟨a1, a2⟩ := Bool.and_eq_true_iff.mp (show (dx.okp && SeqAt.shaped dx.py) = true from hz.1)
      obtain ⟨b1, b2⟩ := Bool.and_eq_true_iff.mp (show ((D.lst ys).okp && SeqAt.shaped (D.lst ys).py) = true from hz.2)
      exact .inr (.inr ⟨_, _, hx.dp a1, Vz.dp (d := .lst ys) b1 hy, a2, b2, k.fz wm rfl⟩)
    · cases hg
  | ro ys =>
    have hg : gInL true dx ys = some r := hg
    unfold gInL at hg
    split at hg
    · rename_i hz
      cases hg
      obtain ⟨a1, a2⟩ := Bool.and_eq_true_iff.mp (show (dx.okp && SeqAt.shaped dx.py) = true from hz.1)
      obtain ⟨b1, b2⟩ := Bool.and_eq_true_iff.mp (show ((D.lst ys).okp && SeqAt.shaped (D.lst ys).py) = true from hz.2)
      exact .inr (.inr ⟨_, _, hx.dp a1, Vz.dp (d := .ro ys) b1 hy, a2, b2, k.fz wm rfl⟩)
    · cases hg
  | _ => cases hg
@[simp] def D.isNon : D → Bool
  | .non => true
  | _ => false
theorem isNon_ok {W : List Addr} {K : PySem.W.Frag} {H : Hp} : ∀ {d : D} {v : V}, Vz W K H d v → decide (v = .non) = d.isNon
  | .non, _, h => by cases h; rfl
  | .bl b, v, h => by cases (show v = .bl b from h); rfl
  | .int b, v, h => by cases (show v = .int b from h); rfl
  | .str b, v, h => by cases (show v = .str b from h); rfl
  | .tup xs, _, ⟨a, vs, e, _⟩ => by subst e; rfl
  | .lst xs, _, ⟨a, vs, e, _⟩ => by subst e; rfl
  | .ro xs, _, ⟨a, vs, e, _⟩ => by subst e; rfl
  | .dic ks xs, _, ⟨a, vs, e, _⟩ => by subst e; rfl
@[simp] def gIsW (n : Bool) : D → D → Option RV
  | x, .non => some (.fz (.bl (if n = true then !x.isNon else x.isNon)))
  | _, _ => none
abbrev gIs := gIsW false
abbrev gIsNot := gIsW true
theorem o_is : Op2 X (compareOp .Is) gIs := by
  refine ⟨_, op_isN, fun W H x y dx dy r Q wm hx hy hg k => ?_⟩
  unfold gIs gIsW at hg
  split at hg
  · cases hg
    refine ⟨hy, ?_⟩
    rw [isNon_ok hx]
    exact k.fz wm rfl
  · cases hg
theorem o_isNot : Op2 X (compareOp .IsNot) gIsNot := by
  refine ⟨_, op_notN, fun W H x y dx dy r Q wm hx hy hg k => ?_⟩
  unfold gIsNot gIsW at hg
  split at hg
  · cases hg
    refine ⟨hy, ?_⟩
    rw [isNon_ok hx]
    exact k.fz wm rfl
  · cases hg
end
end DL

set_option maxHeartbeats 2000000
namespace DL
open PySem PySem.Spec PyProof.Rows L2

theorem Rp.weak {W W' : List Addr} {K : PySem.W.Frag} {H : Hp} (s : ∀ a ∈ W, a ∈ W') (wm : WM W H) {d : D} {v : V} (h : Rp W' K H d v) (wm' : WM W' H) : Rp W K H d v :=
  Rp.mono (W := W') (H := H) ⟨wm', fun a o e n => ⟨e, fun z => n (s a z)⟩⟩ d h
theorem RpL.weak {W W' : List Addr} {K : PySem.W.Frag} {H : Hp} (s : ∀ a ∈ W, a ∈ W') (wm' : WM W' H) {ds : List D} {vs : List V} (h : RpL W' K H ds vs) : RpL W K H ds vs :=
  RpL.mono (W := W') (H := H) ⟨wm', fun a o e n => ⟨e, fun z => n (s a z)⟩⟩ ds h
theorem Grow.base {W W' : List Addr} {H H' : Hp} (g : Grow W H W' H') (wm : WM W H) : Grow W H W H' := .of wm g.keep

section
variable {X : Cx}

/-! ## names and constants -/
@[simp] def pName (i : Nat) : FP := fun e => match e[i]? with
  | some (some (.d x)) => some (.fz x)
  | some (some (.lst xs)) => some (.ow xs)
  | _ => none
@[simp] def pCon (d : D) : FP := fun _ => some (.fz d)
theorem pp_name (i : Nat) {x : Str} {pos : Pos} (hN : X.N[i]? = some x := by rfl) (hv : Vis X.env.scope x := by first | exact Or.inl rfl | exact Or.inr (Or.inl rfl) | exact Or.inr (Or.inr rfl)) (hd : (x == ("__debug__" : Str)) = false := by decide)
    (hcd : (x == ("__classdict__" : Str)) = false := by decide) : PP X (.Name x pos) (pName i) := by
  refine PP.of ⟨tVar i, pe_var hN hv hd hcd, fun W H σ e Q r sr hf k => ?_⟩
  unfold pName at hf
  split at hf
  · rename_i y hy
    cases hf
    obtain ⟨v, h1, h2⟩ := sr.sl i _ hy
    exact ⟨v, h1, k v W H (.refl sr.wm) h2⟩
  · rename_i ys hy
    cases hf
    obtain ⟨v, h1, h2⟩ := sr.sl i _ hy
    exact ⟨v, h1, k v W H (.refl sr.wm) h2⟩
  · cases hf
theorem pp_con {ex : Expr} {d : D} {v : V} (h : PE X ex (tC v)) (hr : ∀ W H, Rp W X.K H d v) : PP X ex (pCon d) :=
  PP.of ⟨_, h, fun W H σ e Q r sr hf k => by cases hf; exact k v W H (.refl sr.wm) (hr W H)⟩
theorem pp_int {i j pos} : PP X (.Constant (.int i) j pos) (pCon (.int i)) := pp_con pe_int fun _ _ => rfl
theorem pp_bl {b j pos} : PP X (.Constant (.bool b) j pos) (pCon (.bl b)) := pp_con pe_bl fun _ _ => rfl
theorem pp_non {j pos} : PP X (.Constant .none j pos) (pCon .non) := pp_con pe_non fun _ _ => rfl
theorem pp_str {x j pos} : PP X (.Constant (.str x) j pos) (pCon (.str x)) := pp_con pe_str fun _ _ => rfl
theorem pp_glob {x : Str} {d : D} {v : V} {u : Value} {pos : Pos} (hm : X.mg x = some u) (r : RelV v u) (hr : ∀ W H, Rp W X.K H d v) (hg : Gl X x := by rfl) (hd : (x == ("__debug__" : Str)) = false := by decide) : PP X (.Name x pos) (pCon d) :=
  pp_con (pe_glob hg hm r hd) hr

/-! ## operators -/
@[simp] def p2 (g : D → D → Option RV) (fa fb : FP) : FP := fun e => (fa e).bind fun a => (fb e).bind fun b => g a.view b.view
@[simp] def p1 (g : D → Option RV) (fa : FP) : FP := fun e => (fa e).bind fun a => g a.view
variable {a b c : Expr} {fa fb fc : FP} {pos : Pos}
theorem pp_bin {op : Operator} {g : D → D → Option RV} (ho : Op2 X (binaryOp op) g) (ha : PP X a fa) (hb : PP X b fb) : PP X (.BinOp a op b pos) (p2 g fa fb) := by
  obtain ⟨rl, h1, h2⟩ := ho.run
  obtain ⟨ta, pa, ka⟩ := ha.run
  obtain ⟨tb, pb, kb⟩ := hb.run
  refine PP.of ⟨_, pe_op h1 pa pb, fun W H σ e Q r sr hf k => ?_⟩
  obtain ⟨ra, ea, hf⟩ := Option.bind_eq_some_iff.mp hf
  obtain ⟨rb, eb, hf⟩ := Option.bind_eq_some_iff.mp hf
  exact ka W H σ e _ ra sr ea fun x W1 H1 g1 k1 => kb W1 H1 σ e _ rb (g1.sr sr) eb fun y W2 H2 g2 k2 =>
    h2 W2 H2 x y _ _ r Q g2.wm (k1.vz.grow g2 g1.wm) k2.vz hf fun v W' H' g3 k3 => k v W' H' ((g1.trans g2).trans g3) (k3.back fun a h => g1.fresh (g2.fresh h))
theorem pp_un {op : UnaryOp} {g : D → Option RV} (ho : Op1 X (unaryOp op) g) (ha : PP X a fa) : PP X (.UnaryOp op a pos) (p1 g fa) := by
  obtain ⟨rl, h1, h2⟩ := ho.run
  obtain ⟨ta, pa, ka⟩ := ha.run
  refine PP.of ⟨_, pe_un h1 pa, fun W H σ e Q r sr hf k => ?_⟩
  obtain ⟨ra, ea, hf⟩ := Option.bind_eq_some_iff.mp hf
  exact ka W H σ e _ ra sr ea fun x W1 H1 g1 k1 => h2 W1 H1 x _ r Q g1.wm k1.vz hf fun v W' H' g3 k3 => k v W' H' (g1.trans g3) (k3.back fun a h => g1.fresh h)
theorem pp_cmp {op : CmpOp} {g : D → D → Option RV} (ho : Op2 X (compareOp op) g) (ha : PP X a fa) (hb : PP X b fb) (hm : behindInMarks op b = false := by first | exact nomark _ | with_unfolding_all rfl) : PP X (.Compare a [op] [b] pos) (p2 g fa fb) := by
  obtain ⟨rl, h1, h2⟩ := ho.run
  obtain ⟨ta, pa, ka⟩ := ha.run
  obtain ⟨tb, pb, kb⟩ := hb.run
  refine PP.of ⟨_, pe_cmpR h1 pa pb hm, fun W H σ e Q r sr hf k => ?_⟩
  obtain ⟨ra, ea, hf⟩ := Option.bind_eq_some_iff.mp hf
  obtain ⟨rb, eb, hf⟩ := Option.bind_eq_some_iff.mp hf
  exact ka W H σ e _ ra sr ea fun x W1 H1 g1 k1 => kb W1 H1 σ e _ rb (g1.sr sr) eb fun y W2 H2 g2 k2 =>
    h2 W2 H2 x y _ _ r Q g2.wm (k1.vz.grow g2 g1.wm) k2.vz hf fun v W' H' g3 k3 => k v W' H' ((g1.trans g2).trans g3) (k3.back fun a h => g1.fresh (g2.fresh h))
/-- a truth value -/
@[simp] def RV.b? : RV → Option Bool
  | .fz (.bl b) => some b
  | _ => none
theorem RV.b?_ok {r : RV} {b : Bool} (h : r.b? = some b) : r = .fz (.bl b) := by
  unfold RV.b? at h
  split at h
  · cases h; rfl
  · cases h
@[simp] def pChain (g g' : D → D → Option RV) (fa fb fc : FP) : FP := fun e => (fa e).bind fun a => (fb e).bind fun b => (g a.view b.view).bind fun r => r.b?.bind fun q => if q = true then (fc e).bind fun c => g' b.view c.view else some (.fz (.bl false))
theorem pp_chain {op op' : CmpOp} {g g' : D → D → Option RV} (ho : Op2 X (compareOp op) g) (ho' : Op2 X (compareOp op') g') (ha : PP X a fa) (hb : PP X b fb) (hc : PP X c fc)
    (hm : lastMarks [op, op'] [b, c] = false := by with_unfolding_all rfl) : PP X (.Compare a [op, op'] [b, c] pos) (pChain g g' fa fb fc) := by
  obtain ⟨rl, h1, h2⟩ := ho.run
  obtain ⟨rl', h1', h2'⟩ := ho'.run
  obtain ⟨ta, pa, ka⟩ := ha.run
  obtain ⟨tb, pb, kb⟩ := hb.run
  obtain ⟨tc, pc, kc⟩ := hc.run
  refine PP.of ⟨_, pe_chain h1 h1' pa pb pc hm, fun W H σ e Q r sr hf k => ?_⟩
  obtain ⟨ra, ea, hf⟩ := Option.bind_eq_some_iff.mp hf
  obtain ⟨rb, eb, hf⟩ := Option.bind_eq_some_iff.mp hf
  obtain ⟨r1, e1, hf⟩ := Option.bind_eq_some_iff.mp hf
  obtain ⟨q, e2, hy⟩ := Option.bind_eq_some_iff.mp hf
  have e3 := RV.b?_ok e2
  subst e3
  refine ka W H σ e _ ra sr ea fun x W1 H1 g1 k1 => kb W1 H1 σ e _ rb (g1.sr sr) eb fun y W2 H2 g2 k2 =>
    h2 W2 H2 x y _ _ _ _ g2.wm (k1.vz.grow g2 g1.wm) k2.vz e1 fun v W3 H3 g3 k3 => ⟨q, k3, ?_⟩
  have g13 := (g1.trans g2).trans g3
  cases q with
  | false =>
    cases hy
    exact k _ W3 H3 g13 rfl
  | true =>
    obtain ⟨rc, ec, hy⟩ := Option.bind_eq_some_iff.mp hy
    show tc σ H3 _
    exact kc W3 H3 σ e _ rc (g13.sr sr) ec fun z W4 H4 g4 k4 => h2' W4 H4 y z _ _ r Q g4.wm (k2.vz.grow (g3.trans g4) g2.wm) k4.vz hy fun v W' H' g5 k5 => k v W' H' ((g13.trans g4).trans g5) (k5.back fun a h => g13.fresh (g4.fresh h))

/-! ## tests -/
@[simp] def tVal (fa : FP) : FT := fun e => (fa e).bind RV.b?
theorem tp_val (ha : PP X a fa) (he : ∀ whole, isTrue a X.env whole = (do let v ← whole; standAt a.pos; holding [v] (truthy v)) := by intro _; rfl) : TP X a (tVal fa) := by
  obtain ⟨ta, pa, ka⟩ := ha.run
  refine TP.of ⟨_, pt_val pa he, fun W H σ e Q q sr hf k => ?_⟩
  obtain ⟨r, er, hf⟩ := Option.bind_eq_some_iff.mp hf
  have e3 := RV.b?_ok hf
  subst e3
  exact ka W H σ e _ _ sr er fun v W' H' g h => ⟨q, h, k W' H' g⟩
theorem tp_cmp {op : CmpOp} {g : D → D → Option RV} (ho : Op2 X (compareOp op) g) (ha : PP X a fa) (hb : PP X b fb) (hm : behindInMarks op b = false := by first | exact nomark _ | with_unfolding_all rfl) : TP X (.Compare a [op] [b] pos) (tVal (p2 g fa fb)) := by
  obtain ⟨rl, h1, h2⟩ := ho.run
  obtain ⟨ta, pa, ka⟩ := ha.run
  obtain ⟨tb, pb, kb⟩ := hb.run
  refine TP.of ⟨_, pt_cmpR h1 pa pb hm, fun W H σ e Q q sr hf k => ?_⟩
  obtain ⟨r, hf, er⟩ := Option.bind_eq_some_iff.mp hf
  have e3 := RV.b?_ok er
  subst e3
  obtain ⟨ra, ea, hf⟩ := Option.bind_eq_some_iff.mp hf
  obtain ⟨rb, eb, hf⟩ := Option.bind_eq_some_iff.mp hf
  exact ka W H σ e _ ra sr ea fun x W1 H1 g1 k1 => kb W1 H1 σ e _ rb (g1.sr sr) eb fun y W2 H2 g2 k2 =>
    h2 W2 H2 x y _ _ _ _ g2.wm (k1.vz.grow g2 g1.wm) k2.vz hf fun v W' H' g3 k3 => ⟨q, k3, k W' H' ((g1.trans g2).trans g3)⟩
theorem tp_chain {op op' : CmpOp} {g g' : D → D → Option RV} (ho : Op2 X (compareOp op) g) (ho' : Op2 X (compareOp op') g') (ha : PP X a fa) (hb : PP X b fb) (hc : PP X c fc)
    (hm : lastMarks [op, op'] [b, c] = false := by with_unfolding_all rfl) : TP X (.Compare a [op, op'] [b, c] pos) (tVal (pChain g g' fa fb fc)) := by
  obtain ⟨rl, h1, h2⟩ := ho.run
  obtain ⟨rl', h1', h2'⟩ := ho'.run
  obtain ⟨ta, pa, ka⟩ := ha.run
  obtain ⟨tb, pb, kb⟩ := hb.run
  obtain ⟨tc, pc, kc⟩ := hc.run
  refine TP.of ⟨_, pt_chain h1 h1' pa pb pc hm, fun W H σ e Q qq sr hf k => ?_⟩
  obtain ⟨r, hf, er⟩ := Option.bind_eq_some_iff.mp hf
  have e4 := RV.b?_ok er
  subst e4
  obtain ⟨ra, ea, hf⟩ := Option.bind_eq_some_iff.mp hf
  obtain ⟨rb, eb, hf⟩ := Option.bind_eq_some_iff.mp hf
  obtain ⟨r1, e1, hf⟩ := Option.bind_eq_some_iff.mp hf
  obtain ⟨q, e2, hy⟩ := Option.bind_eq_some_iff.mp hf
  have e3 := RV.b?_ok e2
  subst e3
  refine ka W H σ e _ ra sr ea fun x W1 H1 g1 k1 => kb W1 H1 σ e _ rb (g1.sr sr) eb fun y W2 H2 g2 k2 =>
    h2 W2 H2 x y _ _ _ _ g2.wm (k1.vz.grow g2 g1.wm) k2.vz e1 fun v W3 H3 g3 k3 => ⟨q, k3, ?_⟩
  have g13 := (g1.trans g2).trans g3
  cases q with
  | false =>
    cases hy
    exact ⟨false, rfl, k W3 H3 g13⟩
  | true =>
    obtain ⟨rc, ec, hy⟩ := Option.bind_eq_some_iff.mp hy
    show tc σ H3 _
    exact kc W3 H3 σ e _ rc (g13.sr sr) ec fun z W4 H4 g4 k4 => h2' W4 H4 y z _ _ _ _ g4.wm (k2.vz.grow (g3.trans g4) g2.wm) k4.vz hy fun v W' H' g5 k5 => ⟨qq, k5, k W' H' ((g13.trans g4).trans g5)⟩
/-- and, or chains -/
structure WP (X : Cx) (ex : Expr) (f : FT) : Prop where
  pw : PW X ex (tT X.K f)
theorem WP.of {X : Cx} {ex : Expr} {f : FT} (h : ∃ t : TT, PW X ex t ∧ ∀ (W : List Addr) (H : Hp) (σ : St) (e : En) (Q : Bool → Hp → Prop) (b : Bool), SR W X.K H σ e → f e = some b →
    (∀ W' H', Grow W H W' H' → Q b H') → t σ H Q) : WP X ex f :=
  let ⟨_, p, k⟩ := h; ⟨⟨fun wh pins s σ H Q I ⟨W, e, r, a, b, c⟩ => p.run wh pins s σ H Q I (k W H σ e Q r a b c)⟩⟩
theorem WP.run {X : Cx} {ex : Expr} {f : FT} (h : WP X ex f) : ∃ t : TT, PW X ex t ∧ ∀ (W : List Addr) (H : Hp) (σ : St) (e : En) (Q : Bool → Hp → Prop) (b : Bool), SR W X.K H σ e → f e = some b →
    (∀ W' H', Grow W H W' H' → Q b H') → t σ H Q := ⟨_, h.pw, fun W H σ e Q r a b c => ⟨W, e, r, a, b, c⟩⟩
@[simp] def tAnd (fa fb : FT) : FT := fun e => (fa e).bind fun q => if q = true then fb e else some false
@[simp] def tOr (fa fb : FT) : FT := fun e => (fa e).bind fun q => if q = true then some true else fb e
@[simp] def tNot (fa : FT) : FT := fun e => (fa e).map not
variable {ta tb : FT} {rest : List Expr}
theorem wp_and1 (ha : TP X a ta) : WP X (.BoolOp .And [a] pos) ta := let ⟨t, p, k⟩ := ha.run; WP.of ⟨t, pw_and1 p, k⟩
theorem wp_or1 (ha : TP X a ta) : WP X (.BoolOp .Or [a] pos) ta := let ⟨t, p, k⟩ := ha.run; WP.of ⟨t, pw_or1 p, k⟩
theorem WP.tp {ex : Expr} {f : FT} (h : WP X ex f) : TP X ex f := ⟨h.pw.pt⟩
theorem wp_and (ha : TP X a ta) (hb : WP X (.BoolOp .And (b :: rest) pos) tb) : WP X (.BoolOp .And (a :: b :: rest) pos) (tAnd ta tb) := by
  obtain ⟨t, p, ka⟩ := ha.run
  obtain ⟨u, p', kb⟩ := hb.run
  refine WP.of ⟨_, pw_and p p', fun W H σ e Q q sr hf k => ?_⟩
  obtain ⟨q1, e1, hf⟩ := Option.bind_eq_some_iff.mp hf
  refine ka W H σ e _ q1 sr e1 fun W1 H1 g1 => ?_
  cases q1 with
  | true => exact kb W1 H1 σ e Q q (g1.sr sr) hf fun W' H' g2 => k W' H' (g1.trans g2)
  | false => cases hf; exact k W1 H1 g1
theorem wp_or (ha : TP X a ta) (hb : WP X (.BoolOp .Or (b :: rest) pos) tb) : WP X (.BoolOp .Or (a :: b :: rest) pos) (tOr ta tb) := by
  obtain ⟨t, p, ka⟩ := ha.run
  obtain ⟨u, p', kb⟩ := hb.run
  refine WP.of ⟨_, pw_or p p', fun W H σ e Q q sr hf k => ?_⟩
  obtain ⟨q1, e1, hf⟩ := Option.bind_eq_some_iff.mp hf
  refine ka W H σ e _ q1 sr e1 fun W1 H1 g1 => ?_
  cases q1 with
  | false => exact kb W1 H1 σ e Q q (g1.sr sr) hf fun W' H' g2 => k W' H' (g1.trans g2)
  | true => cases hf; exact k W1 H1 g1
theorem tp_not (ha : TP X a ta) : TP X (.UnaryOp .Not a pos) (tNot ta) := by
  obtain ⟨t, p, ka⟩ := ha.run
  refine TP.of ⟨_, pt_not p, fun W H σ e Q q sr hf k => ?_⟩
  obtain ⟨q1, e1, hf⟩ := Option.map_eq_some_iff.mp hf
  subst hf
  exact ka W H σ e _ q1 sr e1 fun W1 H1 g1 => k W1 H1 g1
/-! as values -/
@[simp] def pAnd (fa fb : FP) : FP := fun e => (fa e).bind fun r => r.b?.bind fun q => if q = true then fb e else some (.fz (.bl false))
@[simp] def pOr (fa fb : FP) : FP := fun e => (fa e).bind fun r => r.b?.bind fun q => if q = true then some (.fz (.bl true)) else fb e
@[simp] def pNot (fa : FP) : FP := fun e => (fa e).bind fun r => r.b?.map fun q => .fz (.bl (!q))
theorem pp_one {op} (h : PP X a fa) : PP X (.BoolOp op [a] pos) fa := let ⟨t, p, k⟩ := h.run; PP.of ⟨t, pe_one p, k⟩
theorem pp_and (ha : PP X a fa) (hb : PP X (.BoolOp .And (b :: rest) pos) fb) : PP X (.BoolOp .And (a :: b :: rest) pos) (pAnd fa fb) := by
  obtain ⟨t, p, ka⟩ := ha.run
  obtain ⟨u, p', kb⟩ := hb.run
  refine PP.of ⟨_, pe_and p p', fun W H σ e Q r sr hf k => ?_⟩
  obtain ⟨r1, e1, hf⟩ := Option.bind_eq_some_iff.mp hf
  obtain ⟨q, e2, hy⟩ := Option.bind_eq_some_iff.mp hf
  have e3 := RV.b?_ok e2
  subst e3
  refine ka W H σ e _ _ sr e1 fun v W1 H1 g1 k1 => ⟨q, k1, ?_⟩
  cases q with
  | true => exact kb W1 H1 σ e Q r (g1.sr sr) hy fun v W' H' g2 k2 => k v W' H' (g1.trans g2) (k2.back fun a h => g1.fresh h)
  | false => cases hy; exact k _ W1 H1 g1 rfl
theorem pp_or (ha : PP X a fa) (hb : PP X (.BoolOp .Or (b :: rest) pos) fb) : PP X (.BoolOp .Or (a :: b :: rest) pos) (pOr fa fb) := by
  obtain ⟨t, p, ka⟩ := ha.run
  obtain ⟨u, p', kb⟩ := hb.run
  refine PP.of ⟨_, pe_or p p', fun W H σ e Q r sr hf k => ?_⟩
  obtain ⟨r1, e1, hf⟩ := Option.bind_eq_some_iff.mp hf
  obtain ⟨q, e2, hy⟩ := Option.bind_eq_some_iff.mp hf
  have e3 := RV.b?_ok e2
  subst e3
  refine ka W H σ e _ _ sr e1 fun v W1 H1 g1 k1 => ⟨q, k1, ?_⟩
  cases q with
  | false => exact kb W1 H1 σ e Q r (g1.sr sr) hy fun v W' H' g2 k2 => k v W' H' (g1.trans g2) (k2.back fun a h => g1.fresh h)
  | true => cases hy; exact k _ W1 H1 g1 rfl
theorem pp_not (ha : PP X a fa) : PP X (.UnaryOp .Not a pos) (pNot fa) := by
  obtain ⟨t, p, ka⟩ := ha.run
  refine PP.of ⟨_, pe_not p, fun W H σ e Q r sr hf k => ?_⟩
  obtain ⟨r1, e1, hf⟩ := Option.bind_eq_some_iff.mp hf
  obtain ⟨q, e2, hy⟩ := Option.map_eq_some_iff.mp hf
  have e3 := RV.b?_ok e2
  subst e3
  subst hy
  exact ka W H σ e _ _ sr e1 fun v W1 H1 g1 k1 => ⟨q, k1, k _ W1 H1 g1 rfl⟩
@[simp] def pIf (t : FT) (fa fb : FP) : FP := fun e => (t e).bind fun q => if q = true then fa e else fb e
theorem pp_if (hc : TP X c ta) (ha : PP X a fa) (hb : PP X b fb) : PP X (.IfExp c a b pos) (pIf ta fa fb) := by
  obtain ⟨t, p, kc⟩ := hc.run
  obtain ⟨ua, pa, ka⟩ := ha.run
  obtain ⟨ub, pb, kb⟩ := hb.run
  refine PP.of ⟨_, pe_ifExp p pa pb, fun W H σ e Q r sr hf k => ?_⟩
  obtain ⟨q, e1, hf⟩ := Option.bind_eq_some_iff.mp hf
  refine kc W H σ e _ q sr e1 fun W1 H1 g1 => ?_
  cases q with
  | true => exact ka W1 H1 σ e Q r (g1.sr sr) hf fun v W' H' g2 k2 => k v W' H' (g1.trans g2) (k2.back fun a h => g1.fresh h)
  | false => exact kb W1 H1 σ e Q r (g1.sr sr) hf fun v W' H' g2 k2 => k v W' H' (g1.trans g2) (k2.back fun a h => g1.fresh h)

/-! ## argument lists, displays -/
variable {es : List Expr} {fs : En → Option (List RV)}
@[simp] def aNil : En → Option (List RV) := fun _ => some []
@[simp] def aCons (fa : FP) (fs : En → Option (List RV)) : En → Option (List RV) := fun e => (fa e).bind fun a => (fs e).map fun rs => a :: rs
theorem aa_nil : PPs X [] aNil := PPs.of ⟨_, pa_nil, fun W H σ e Q rs sr hf k => by cases hf; exact k [] W H (.refl sr.wm) rfl⟩
theorem aa_cons (ha : PP X a fa) (hr : PPs X es fs) (hs : starEach (a :: es) X.env = (false, eval a X.env) :: starEach es X.env := by rfl) : PPs X (a :: es) (aCons fa fs) := by
  obtain ⟨t, p, ka⟩ := ha.run
  obtain ⟨u, p', kb⟩ := hr.run
  refine PPs.of ⟨_, pa_cons p p' hs, fun W H σ e Q rs sr hf k => ?_⟩
  obtain ⟨r1, e1, hf⟩ := Option.bind_eq_some_iff.mp hf
  obtain ⟨r2, e2, hf⟩ := Option.map_eq_some_iff.mp hf
  subst hf
  exact ka W H σ e _ r1 sr e1 fun v W1 H1 g1 k1 => kb W1 H1 σ e _ r2 (g1.sr sr) e2 fun vs W' H' g2 k2 => k _ W' H' (g1.trans g2) ⟨v, vs, rfl, k1.grow g2 g1.wm, k2.back fun a h => g1.fresh h⟩
/-- what may be put into a container -/
@[simp] def RV.item : RV → Option D
  | .fz x => some x
  | .fr xs => some (.lst xs)
  | .ow _ => none
@[simp] def items : List RV → Option (List D)
  | [] => some []
  | r :: rs => r.item.bind fun x => (items rs).map fun xs => x :: xs
theorem RVok.item {W W' : List Addr} {K : PySem.W.Frag} {H H' : Hp} (g : Grow W H W' H') (wm : WM W H) : ∀ {r : RV} {v : V} {x : D}, RVok W' K H H' r v → r.item = some x → Rp W K H' x v
  | .fz y, v, x, h, e => by cases e; exact Rp.weak g.sub (g.base wm).wm h g.wm
  | .fr ys, v, x, h, e => by
    cases e
    obtain ⟨a, vs, e, h0, h1, h2, h3⟩ := h
    exact ⟨a, vs, e, ⟨h2, fun z => isSome_of_mut (wm a z) h0⟩, RpL.weak g.sub g.wm h3⟩
theorem RVs.items {W W' : List Addr} {K : PySem.W.Frag} {H H' : Hp} (g : Grow W H W' H') (wm : WM W H) : ∀ {rs : List RV} {vs : List V} {xs : List D}, RVs W' K H H' rs vs → DL.items rs = some xs → RpL W K H' xs vs
  | [], vs, xs, h, e => by cases e; exact h
  | r :: rs, _, xs, ⟨v, us, ev, h1, h2⟩, e => by
    obtain ⟨x, e1, e⟩ := Option.bind_eq_some_iff.mp e
    obtain ⟨ys, e2, e⟩ := Option.map_eq_some_iff.mp e
    subst e
    exact ⟨v, us, ev, h1.item g wm e1, RVs.items g wm h2 e2⟩
@[simp] def pTup (fs : En → Option (List RV)) : FP := fun e => (fs e).bind fun rs => (items rs).bind fun xs => if xs.length ≤ SZ then some (.fz (.tup xs)) else none
@[simp] def pLst (fs : En → Option (List RV)) : FP := fun e => (fs e).bind fun rs => (items rs).bind fun xs => if xs.length ≤ SZ then some (.fr xs) else none
theorem pp_tup {x1} (h : PPs X es fs) : PP X (.Tuple es x1 pos) (pTup fs) := by
  obtain ⟨t, p, ka⟩ := h.run
  refine PP.of ⟨_, pe_tup p, fun W H σ e Q r sr hf k => ?_⟩
  obtain ⟨rs, e1, hf⟩ := Option.bind_eq_some_iff.mp hf
  obtain ⟨xs, e2, hf⟩ := Option.bind_eq_some_iff.mp hf
  split at hf
  · rename_i hz
    cases hf
    refine ka W H σ e _ rs sr e1 fun vs W1 H1 g1 k1 => ?_
    have q := k1.items g1 sr.wm e2
    refine ⟨by rw [SZ_eq, ← q.length]; exact hz, fun pp hn => ?_⟩
    have g0 := g1.base sr.wm
    exact KQ.tup (Q := Q) g0.wm (fun v W' H' g3 k3 => k v W' H' (g0.trans g3) k3) q pp hn
  · cases hf
theorem pp_lst (h : PPs X es fs) : PP X (.List es pos) (pLst fs) := by
  obtain ⟨t, p, ka⟩ := h.run
  refine PP.of ⟨_, pe_lst p, fun W H σ e Q r sr hf k => ?_⟩
  obtain ⟨rs, e1, hf⟩ := Option.bind_eq_some_iff.mp hf
  obtain ⟨xs, e2, hf⟩ := Option.bind_eq_some_iff.mp hf
  split at hf
  · rename_i hz
    cases hf
    refine ka W H σ e _ rs sr e1 fun vs W1 H1 g1 k1 => ?_
    have q := k1.items g1 sr.wm e2
    refine ⟨by rw [SZ_eq, ← q.length]; exact hz, fun pp hn => ?_⟩
    have g0 := g1.base sr.wm
    exact KQ.fr (Q := Q) g0.wm (fun v W' H' g3 k3 => k v W' H' (g0.trans g3) (k3.back fun a h => g0.fresh h)) q pp hn
  · cases hf

/-! ## subscripts, slices -/
structure Ix2 (X : Cx) (g : D → D → Option RV) : Prop where
  run : ∃ rl : R2, IxR X rl ∧ ∀ (W : List Addr) (H : Hp) (x y : V) (dx dy : D) (r : RV) (Q : VK), WM W H → Vz W X.K H dx x → Vz W X.K H dy y → g dx dy = some r → KQ W X.K H r Q → rl x y H Q
theorem pp_ix0 {g : D → D → Option RV} (ho : Ix2 X g) (ha : PP X a fa) (hb : PP X b fb) (hs : PlainIx b := by intro _ _; rfl) : PP X (.Subscript a b pos) (p2 g fa fb) := by
  obtain ⟨rl, h1, h2⟩ := ho.run
  obtain ⟨ta, pa, ka⟩ := ha.run
  obtain ⟨tb, pb, kb⟩ := hb.run
  refine PP.of ⟨_, pe_ix h1 pa pb hs, fun W H σ e Q r sr hf k => ?_⟩
  obtain ⟨ra, ea, hf⟩ := Option.bind_eq_some_iff.mp hf
  obtain ⟨rb, eb, hf⟩ := Option.bind_eq_some_iff.mp hf
  exact ka W H σ e _ ra sr ea fun x W1 H1 g1 k1 => kb W1 H1 σ e _ rb (g1.sr sr) eb fun y W2 H2 g2 k2 =>
    h2 W2 H2 x y _ _ r Q g2.wm (k1.vz.grow g2 g1.wm) k2.vz hf fun v W' H' g3 k3 => k v W' H' ((g1.trans g2).trans g3) (k3.back fun a h => g1.fresh (g2.fresh h))
@[simp] def gIx : D → D → Option RV
  | .tup xs, .int i => (atI xs i).map .fz
  | .lst xs, .int i => (atI xs i).map .fz
  | .ro xs, .int i => (atI xs i).map .fz
  | .str z, .int i => if z.length ≤ SZ then (atI z.cps.toList i).map fun c => .fz (.str ⟨#[c]⟩) else none
  | _, _ => none
theorem RpL.at {W : List Addr} {K : PySem.W.Frag} {H : Hp} {ds : List D} {vs : List V} {i : Int} {d : D} (h : RpL W K H ds vs) (e : atI ds i = some d) : ∃ v, atI vs i = some v ∧ Rp W K H d v := by
  unfold atI at e ⊢
  rw [← h.length]
  obtain ⟨j, e1, e2⟩ := Option.bind_eq_some_iff.mp e
  obtain ⟨v, e3, r⟩ := h.get e2
  exact ⟨v, by rw [e1]; exact e3, r⟩
theorem ix_ok : Ix2 X gIx := by
  refine ⟨_, ix_seq, fun W H x y dx dy r Q wm hx hy hg k => ?_⟩
  unfold gIx at hg
  split at hg
  · obtain ⟨d, e, hg⟩ := Option.map_eq_some_iff.mp hg
    subst hg
    obtain ⟨p, vs, e1, h1, r1⟩ := hx
    obtain ⟨v, e2, q⟩ := r1.at e
    exact .inr (.inl ⟨p, vs, _, v, e1, hy, h1, e2, k.fz wm q⟩)
  · obtain ⟨d, e, hg⟩ := Option.map_eq_some_iff.mp hg
    subst hg
    obtain ⟨p, vs, e1, h1, r1⟩ := hx
    obtain ⟨v, e2, q⟩ := r1.at e
    exact .inl ⟨p, vs, _, v, e1, hy, .of h1, e2, k.fz wm q⟩
  · obtain ⟨d, e, hg⟩ := Option.map_eq_some_iff.mp hg
    subst hg
    obtain ⟨p, vs, e1, h1, r1⟩ := hx
    obtain ⟨v, e2, q⟩ := r1.at e
    exact .inl ⟨p, vs, _, v, e1, hy, h1.seq, e2, k.fz wm q⟩
  · split at hg
    · rename_i hz
      obtain ⟨c, e, hg⟩ := Option.map_eq_some_iff.mp hg
      subst hg
      exact .inr (.inr ⟨_, _, c, hx, hy, by rw [SZ_eq]; exact hz, e, k.fz wm rfl⟩)
    · cases hg
  · cases hg
theorem pp_ix (ha : PP X a fa) (hb : PP X b fb) (hs : PlainIx b := by intro _ _; rfl) : PP X (.Subscript a b pos) (p2 gIx fa fb) := pp_ix0 ix_ok ha hb hs

/-- a slice's part -/
abbrev FO := En → Option (Option Int)
def tO (K : PySem.W.Frag) (f : FO) : TO := fun σ H Q => ∃ (W : List Addr) (e : En) (o : Option Int), SR W K H σ e ∧ f e = some o ∧ ∀ W' H', Grow W H W' H' → Q o H'
structure OP (X : Cx) (ex : Option Expr) (f : FO) : Prop where
  po : PO X ex (tO X.K f)
theorem OP.of {X : Cx} {ex : Option Expr} {f : FO} (h : ∃ t : TO, PO X ex t ∧ ∀ (W : List Addr) (H : Hp) (σ : St) (e : En) (Q : Option Int → Hp → Prop) (o : Option Int), SR W X.K H σ e → f e = some o →
    (∀ W' H', Grow W H W' H' → Q o H') → t σ H Q) : OP X ex f :=
  let ⟨_, p, k⟩ := h; ⟨⟨fun pins s σ H Q I ⟨W, e, r, a, b, c⟩ => p.run pins s σ H Q I (k W H σ e Q r a b c)⟩⟩
theorem OP.run {X : Cx} {ex : Option Expr} {f : FO} (h : OP X ex f) : ∃ t : TO, PO X ex t ∧ ∀ (W : List Addr) (H : Hp) (σ : St) (e : En) (Q : Option Int → Hp → Prop) (o : Option Int), SR W X.K H σ e → f e = some o →
    (∀ W' H', Grow W H W' H' → Q o H') → t σ H Q := ⟨_, h.po, fun W H σ e Q r a b c => ⟨W, e, r, a, b, c⟩⟩
@[simp] def oNone : En → Option (Option Int) := fun _ => some none
@[simp] def RV.i? : RV → Option Int
  | .fz (.int b) => some b
  | _ => none
theorem RV.i?_ok {r : RV} {b : Int} (h : r.i? = some b) : r = .fz (.int b) := by
  unfold RV.i? at h
  split at h
  · cases h; rfl
  · cases h
@[simp] def oSome (fa : FP) : En → Option (Option Int) := fun e => (fa e).bind fun r => r.i?.map some
theorem op_none : OP X none oNone := OP.of ⟨_, po_none, fun W H σ e Q o sr hf k => by cases hf; exact k W H (.refl sr.wm)⟩
theorem op_some (ha : PP X a fa) : OP X (some a) (oSome fa) := by
  obtain ⟨t, p, ka⟩ := ha.run
  refine OP.of ⟨_, po_some p, fun W H σ e Q o sr hf k => ?_⟩
  obtain ⟨r, e1, hf⟩ := Option.bind_eq_some_iff.mp hf
  obtain ⟨i, e2, hy⟩ := Option.map_eq_some_iff.mp hf
  have e3 := RV.i?_ok e2
  subst e3 hy
  exact ka W H σ e _ _ sr e1 fun v W1 H1 g1 k1 => ⟨i, k1, k W1 H1 g1⟩
def cutD {α : Type} (xs : List α) (lo hi : Option Int) : List α := (xs.drop (HT.sIx xs.length 0 lo)).take (HT.sIx xs.length xs.length hi - HT.sIx xs.length 0 lo)
@[simp] def gSl : D → Option Int → Option Int → Option RV
  | .tup xs, lo, hi => some (.fz (.tup (cutD xs lo hi)))
  | .lst xs, lo, hi => some (.fr (cutD xs lo hi))
  | .ro xs, lo, hi => some (.fr (cutD xs lo hi))
  | .str z, lo, hi => if z.length ≤ SZ then some (.fz (.str (cutS z lo hi))) else none
  | _, _, _ => none
theorem RpL.cut {W : List Addr} {K : PySem.W.Frag} {H : Hp} {ds : List D} {vs : List V} (lo hi : Option Int) (h : RpL W K H ds vs) : RpL W K H (cutD ds lo hi) (cutV vs lo hi) := by
  unfold cutD cutV
  rw [h.length]
  exact (h.drop _).take _
theorem cutD_all {α : Type} {xs : List α} {lo hi : Option Int} (h : HT.sIx xs.length 0 lo = 0 ∧ HT.sIx xs.length xs.length hi = xs.length) : cutD xs lo hi = xs := by
  unfold cutD
  rw [h.1, h.2]
  simp
@[simp] def pSl (fa : FP) (fl fh : En → Option (Option Int)) : FP := fun e => (fa e).bind fun a => (fl e).bind fun lo => (fh e).bind fun hi => gSl a.view lo hi
theorem pp_slice {lo hi : Option Expr} {fl fh : En → Option (Option Int)} {p2 : Pos} (ha : PP X a fa) (hl : OP X lo fl) (hh : OP X hi fh) : PP X (.Subscript a (.Slice lo hi none p2) pos) (pSl fa fl fh) := by
  obtain ⟨ta, pa, ka⟩ := ha.run
  obtain ⟨tl, pl, kl⟩ := hl.run
  obtain ⟨th, ph, kh⟩ := hh.run
  refine PP.of ⟨_, pe_slice (sl_list.or (sl_tupA.or sl_str)) pa pl ph, fun W H σ e Q r sr hf k => ?_⟩
  obtain ⟨ra, ea, hf⟩ := Option.bind_eq_some_iff.mp hf
  obtain ⟨l, el, hf⟩ := Option.bind_eq_some_iff.mp hf
  obtain ⟨u, eu, hf⟩ := Option.bind_eq_some_iff.mp hf
  refine ka W H σ e _ ra sr ea fun x W1 H1 g1 k1 => kl W1 H1 σ e _ l (g1.sr sr) el fun W2 H2 g2 => kh W2 H2 σ e _ u ((g1.trans g2).sr sr) eu fun W3 H3 g3 => ?_
  have g13 := (g1.trans g2).trans g3
  have hx := k1.vz.grow (g2.trans g3) g1.wm
  have wm := g13.wm
  have k' : KQ W3 X.K H3 r Q := fun v W' H' g4 k4 => k v W' H' (g13.trans g4) (k4.back fun a h => g13.fresh h)
  revert hx hf
  generalize ra.view = dx
  intro hf hx
  unfold gSl at hf
  split at hf
  · cases hf
    obtain ⟨p, vs, e1, h1, r1⟩ := hx
    refine .inr (.inl ⟨p, vs, e1, h1, fun h => ?_, fun _ => k'.tup wm (r1.cut l u)⟩)
    refine k'.fz wm ⟨p, vs, rfl, h1, ?_⟩
    rw [← r1.length] at h
    rw [cutD_all h]
    exact r1
  · cases hf
    obtain ⟨p, vs, e1, h1, r1⟩ := hx
    exact .inl ⟨p, vs, e1, .of h1, k'.fr wm (r1.cut l u)⟩
  · cases hf
    obtain ⟨p, vs, e1, h1, r1⟩ := hx
    exact .inl ⟨p, vs, e1, h1.seq, k'.fr wm (r1.cut l u)⟩
  · split at hf
    · rename_i hz
      cases hf
      exact .inr (.inr ⟨_, hx, by rw [SZ_eq]; exact hz, k'.fz wm rfl⟩)
    · cases hf
  · cases hf
end
end DL

set_option maxHeartbeats 2000000
namespace DL
open PySem PySem.Spec PyProof.Rows L2

/-! ## built-in functions by data -/
def VzL (W : List Addr) (K : PySem.W.Frag) (H : Hp) : List D → List V → Prop
  | [], vs => vs = []
  | d :: ds, vs => ∃ v us, vs = v :: us ∧ Vz W K H d v ∧ VzL W K H ds us
theorem RVs.vzL {W' : List Addr} {K : PySem.W.Frag} {H H' : Hp} : ∀ {rs : List RV} {vs : List V}, RVs W' K H H' rs vs → VzL W' K H' (rs.map RV.view) vs
  | [], _, h => h
  | _ :: _, _, ⟨v, us, e, h1, h2⟩ => ⟨v, us, e, h1.vz, RVs.vzL h2⟩
structure Ca (X : Cx) (f : Value) (g : List D → Option RV) : Prop where
  run : ∃ rl : List V → Hp → VK → Prop, CallR X f rl ∧ ∀ (W : List Addr) (H : Hp) (xs : List V) (ds : List D) (r : RV) (Q : VK), WM W H → VzL W X.K H ds xs → g ds = some r → KQ W X.K H r Q → rl xs H Q
section
variable {X : Cx} {g : List D → Option RV} {fs : FA} {x : Str} {p pos : Pos} {a : Expr} {es : List Expr} {id T : String}
@[simp] def pCa (g : List D → Option RV) (fs : FA) : FP := fun e => (fs e).bind fun rs => g (rs.map RV.view)
theorem pp_callB (hc : Ca X (.builtin id) g) (hm : X.mg x = none) (ha : PPs X (a :: es) fs) (hg : Gl X x := by rfl) (hv : bootBuiltins x = some (.builtin id) := by decide +kernel) (hn : x ≠ "__name__" := by decide) (hdb : (x == ("__debug__" : Str)) = false := by decide)
    (he : starEach (a :: es) X.env = (false, eval a X.env) :: starEach es X.env := by rfl) (hpl : (backTo pos (starEach es X.env)).any (·.1) = false := by rfl) : PP X (.Call (.Name x p) (a :: es) [] pos) (pCa g fs) := by
  obtain ⟨rl, h1, h2⟩ := hc.run
  obtain ⟨t, pa, ka⟩ := ha.run
  refine PP.of ⟨_, pe_callB h1 hg hm hv pa hn hdb he hpl, fun W H σ e Q r sr hf k => ?_⟩
  obtain ⟨rs, e1, hf⟩ := Option.bind_eq_some_iff.mp hf
  exact ka W H σ e _ rs sr e1 fun vs W1 H1 g1 k1 => h2 W1 H1 vs _ r Q g1.wm k1.vzL hf fun v W' H' g2 k2 => k v W' H' (g1.trans g2) (k2.back fun a h => g1.fresh h)
theorem pp_callT (hc : Ca X (.type T) g) (hm : X.mg x = none) (ha : PPs X (a :: es) fs) (hg : Gl X x := by rfl) (hv : bootBuiltins x = some (.type T) := by decide +kernel) (hn : x ≠ "__name__" := by decide) (hdb : (x == ("__debug__" : Str)) = false := by decide)
    (he : starEach (a :: es) X.env = (false, eval a X.env) :: starEach es X.env := by rfl) (hpl : (backTo pos (starEach es X.env)).any (·.1) = false := by rfl) : PP X (.Call (.Name x p) (a :: es) [] pos) (pCa g fs) := by
  obtain ⟨rl, h1, h2⟩ := hc.run
  obtain ⟨t, pa, ka⟩ := ha.run
  refine PP.of ⟨_, pe_callTy h1 hg hm hv pa hn hdb he hpl, fun W H σ e Q r sr hf k => ?_⟩
  obtain ⟨rs, e1, hf⟩ := Option.bind_eq_some_iff.mp hf
  exact ka W H σ e _ rs sr e1 fun vs W1 H1 g1 k1 => h2 W1 H1 vs _ r Q g1.wm k1.vzL hf fun v W' H' g2 k2 => k v W' H' (g1.trans g2) (k2.back fun a h => g1.fresh h)
end
section
variable {X : Cx} {W : List Addr} {K : PySem.W.Frag} {H : Hp}
@[simp] def gLen : List D → Option RV
  | [.str z] => if z.length ≤ SZ then some (.fz (.int z.length)) else none
  | [.lst xs] => some (.fz (.int xs.length))
  | [.ro xs] => some (.fz (.int xs.length))
  | [.tup xs] => some (.fz (.int xs.length))
  | _ => none
theorem c_len : Ca X (.builtin "len") gLen := by
  refine ⟨_, call_len, fun W H xs ds r Q wm hx hg k => ?_⟩
  unfold gLen at hg
  split at hg
  · split at hg
    · rename_i z hz
      cases hg
      obtain ⟨v, us, rfl, h1, h2⟩ := hx
      cases (show us = [] from h2)
      cases (show v = .str z from h1)
      exact ⟨_, z.length, rfl, ⟨by rw [SZ_eq]; exact hz, rfl⟩, k.fz wm rfl⟩
    · cases hg
  · rename_i ys
    cases hg
    obtain ⟨v, us, rfl, ⟨a, vs, rfl, h1, r1⟩, h2⟩ := hx
    cases (show us = [] from h2)
    exact ⟨_, ys.length, rfl, .inl ⟨vs, .of h1, r1.length⟩, k.fz wm rfl⟩
  · rename_i ys
    cases hg
    obtain ⟨v, us, rfl, ⟨a, vs, rfl, h1, r1⟩, h2⟩ := hx
    cases (show us = [] from h2)
    exact ⟨_, ys.length, rfl, .inl ⟨vs, h1.seq, r1.length⟩, k.fz wm rfl⟩
  · rename_i ys
    cases hg
    obtain ⟨v, us, rfl, ⟨a, vs, rfl, h1, r1⟩, h2⟩ := hx
    cases (show us = [] from h2)
    exact ⟨_, ys.length, rfl, .inr ⟨vs, h1, r1.length⟩, k.fz wm rfl⟩
  · cases hg
/-- one argument -/
theorem VzL.one {d : D} {xs : List V} (h : VzL W K H [d] xs) : ∃ v, xs = [v] ∧ Vz W K H d v := by
  obtain ⟨v, us, rfl, h1, h2⟩ := h
  cases (show us = [] from h2)
  exact ⟨v, rfl, h1⟩
theorem VzL.two {d d' : D} {xs : List V} (h : VzL W K H [d, d'] xs) : ∃ v v', xs = [v, v'] ∧ Vz W K H d v ∧ Vz W K H d' v' := by
  obtain ⟨v, us, rfl, h1, h2⟩ := h
  obtain ⟨v', rfl, h3⟩ := VzL.one h2
  exact ⟨v, v', rfl, h1, h3⟩
@[simp] def gAbs : List D → Option RV
  | [.int i] => some (.fz (.int (if i < 0 then -i else i)))
  | _ => none
theorem c_abs : Ca X (.builtin "abs") gAbs := by
  refine ⟨_, call_abs, fun W H xs ds r Q wm hx hg k => ?_⟩
  unfold gAbs at hg
  split at hg
  · cases hg
    obtain ⟨v, rfl, h⟩ := hx.one
    cases h
    exact ⟨_, rfl, k.fz wm rfl⟩
  · cases hg
@[simp] def gMax2 : List D → Option RV
  | [.int i, .int j] => some (.fz (.int (if j > i then j else i)))
  | _ => none
theorem c_max2 (hc : X.calm = true) : Ca X (.builtin "max") gMax2 := by
  refine ⟨_, call_max2 hc, fun W H xs ds r Q wm hx hg k => ?_⟩
  unfold gMax2 at hg
  split at hg
  · cases hg
    obtain ⟨v, v', rfl, h, h'⟩ := hx.two
    cases h
    cases h'
    exact ⟨_, _, rfl, k.fz wm rfl⟩
  · cases hg
@[simp] def gMin2 : List D → Option RV
  | [.int i, .int j] => some (.fz (.int (if j < i then j else i)))
  | _ => none
theorem c_min2 (hc : X.calm = true) : Ca X (.builtin "min") gMin2 := by
  refine ⟨_, call_min2 hc, fun W H xs ds r Q wm hx hg k => ?_⟩
  unfold gMin2 at hg
  split at hg
  · cases hg
    obtain ⟨v, v', rfl, h, h'⟩ := hx.two
    cases h
    cases h'
    exact ⟨_, _, rfl, k.fz wm rfl⟩
  · cases hg
@[simp] def gInt : List D → Option RV
  | [.int i] => some (.fz (.int i))
  | [.bl b] => some (.fz (.int (if b then 1 else 0)))
  | _ => none
theorem c_int : Ca X (.type "int") gInt := by
  refine ⟨_, call_int1, fun W H xs ds r Q wm hx hg k => ?_⟩
  unfold gInt at hg
  split at hg
  · cases hg
    obtain ⟨v, rfl, h⟩ := hx.one
    cases h
    exact .inl ⟨_, rfl, k.fz wm rfl⟩
  · cases hg
    obtain ⟨v, rfl, h⟩ := hx.one
    cases h
    exact .inr ⟨_, rfl, k.fz wm rfl⟩
  · cases hg
@[simp] def gList : List D → Option RV
  | [.lst xs] => some (.fr xs)
  | [.ro xs] => some (.fr xs)
  | [.tup xs] => some (.fr xs)
  | _ => none
theorem c_list : Ca X (.type "list") gList := by
  refine ⟨_, call_list_of, fun W H xs ds r Q wm hx hg k => ?_⟩
  unfold gList at hg
  split at hg
  · cases hg
    obtain ⟨v, rfl, a, vs, rfl, h1, r1⟩ := hx.one
    exact ⟨a, vs, rfl, .inl (.of h1), k.fr wm r1⟩
  · cases hg
    obtain ⟨v, rfl, a, vs, rfl, h1, r1⟩ := hx.one
    exact ⟨a, vs, rfl, .inl h1.seq, k.fr wm r1⟩
  · cases hg
    obtain ⟨v, rfl, a, vs, rfl, h1, r1⟩ := hx.one
    exact ⟨a, vs, rfl, .inr h1, k.fr wm r1⟩
  · cases hg
@[simp] def gTuple : List D → Option RV
  | [.lst xs] => some (.fz (.tup xs))
  | [.ro xs] => some (.fz (.tup xs))
  | [.tup xs] => some (.fz (.tup xs))
  | _ => none
theorem c_tuple : Ca X (.type "tuple") gTuple := by
  refine ⟨_, call_tuple_of, fun W H xs ds r Q wm hx hg k => ?_⟩
  unfold gTuple at hg
  split at hg
  · cases hg
    obtain ⟨v, rfl, a, vs, rfl, h1, r1⟩ := hx.one
    exact ⟨a, vs, rfl, .inl ⟨.of h1, k.tup wm r1⟩⟩
  · cases hg
    obtain ⟨v, rfl, a, vs, rfl, h1, r1⟩ := hx.one
    exact ⟨a, vs, rfl, .inl ⟨h1.seq, k.tup wm r1⟩⟩
  · cases hg
    obtain ⟨v, rfl, a, vs, rfl, h1, r1⟩ := hx.one
    exact ⟨a, vs, rfl, .inr ⟨h1, k.fz wm ⟨a, vs, rfl, h1, r1⟩⟩⟩
  · cases hg
@[simp] def bls? : List D → Option (List Bool)
  | [] => some []
  | d :: r => match d with
    | .bl b => (bls? r).map (b :: ·)
    | _ => none
@[simp] def ints? : List D → Option (List Int)
  | [] => some []
  | d :: r => match d with
    | .int b => (ints? r).map (b :: ·)
    | _ => none
@[simp] def strs? : List D → Option (List Str)
  | [] => some []
  | d :: r => match d with
    | .str b => (strs? r).map (b :: ·)
    | _ => none
theorem bls_ok : ∀ {ds : List D} {vs : List V} {bs : List Bool}, RpL W K H ds vs → bls? ds = some bs → vs = bs.map V.bl
  | [], vs, bs, h, e => by cases e; exact h
  | d :: r, _, bs, ⟨v, us, e1, h1, h2⟩, e => by
    cases d with
    | bl b =>
      obtain ⟨cs, e2, rfl⟩ := Option.map_eq_some_iff.mp (show (bls? r).map (b :: ·) = some bs from e)
      cases (show v = .bl b from h1)
      rw [e1, bls_ok h2 e2]
      rfl
    | _ => cases (show (none : Option (List Bool)) = some bs from e)
theorem ints_ok : ∀ {ds : List D} {vs : List V} {bs : List Int}, RpL W K H ds vs → ints? ds = some bs → vs = bs.map V.int
  | [], vs, bs, h, e => by cases e; exact h
  | d :: r, _, bs, ⟨v, us, e1, h1, h2⟩, e => by
    cases d with
    | int b =>
      obtain ⟨cs, e2, rfl⟩ := Option.map_eq_some_iff.mp (show (ints? r).map (b :: ·) = some bs from e)
      cases (show v = .int b from h1)
      rw [e1, ints_ok h2 e2]
      rfl
    | _ => cases (show (none : Option (List Int)) = some bs from e)
theorem strs_ok : ∀ {ds : List D} {vs : List V} {bs : List Str}, RpL W K H ds vs → strs? ds = some bs → vs = bs.map V.str
  | [], vs, bs, h, e => by cases e; exact h
  | d :: r, _, bs, ⟨v, us, e1, h1, h2⟩, e => by
    cases d with
    | str b =>
      obtain ⟨cs, e2, rfl⟩ := Option.map_eq_some_iff.mp (show (strs? r).map (b :: ·) = some bs from e)
      cases (show v = .str b from h1)
      rw [e1, strs_ok h2 e2]
      rfl
    | _ => cases (show (none : Option (List Str)) = some bs from e)
@[simp] def gAll : List D → Option RV
  | [.lst xs] => (bls? xs).map fun bs => .fz (.bl (bs.all id))
  | _ => none
@[simp] def gAny : List D → Option RV
  | [.lst xs] => (bls? xs).map fun bs => .fz (.bl (bs.any id))
  | _ => none
@[simp] def gSum : List D → Option RV
  | [.lst xs] => (ints? xs).map fun bs => .fz (.int bs.sum)
  | _ => none
theorem c_all (hc : X.calm = true) : Ca X (.builtin "all") gAll := by
  refine ⟨_, cr_all hc, fun W H xs ds r Q wm hx hg k => ?_⟩
  unfold gAll at hg
  split at hg
  · obtain ⟨bs, e, rfl⟩ := Option.map_eq_some_iff.mp hg
    obtain ⟨v, rfl, a, vs, rfl, h1, r1⟩ := hx.one
    exact ⟨a, bs, rfl, .of (by rw [h1, bls_ok r1 e]), k.fz wm rfl⟩
  · cases hg
theorem c_any (hc : X.calm = true) : Ca X (.builtin "any") gAny := by
  refine ⟨_, cr_any hc, fun W H xs ds r Q wm hx hg k => ?_⟩
  unfold gAny at hg
  split at hg
  · obtain ⟨bs, e, rfl⟩ := Option.map_eq_some_iff.mp hg
    obtain ⟨v, rfl, a, vs, rfl, h1, r1⟩ := hx.one
    exact ⟨a, bs, rfl, .of (by rw [h1, bls_ok r1 e]), k.fz wm rfl⟩
  · cases hg
theorem c_sum (hc : X.calm = true) : Ca X (.builtin "sum") gSum := by
  refine ⟨_, cr_sum hc, fun W H xs ds r Q wm hx hg k => ?_⟩
  unfold gSum at hg
  split at hg
  · obtain ⟨bs, e, rfl⟩ := Option.map_eq_some_iff.mp hg
    obtain ⟨v, rfl, a, vs, rfl, h1, r1⟩ := hx.one
    exact ⟨a, bs, rfl, .of (by rw [h1, ints_ok r1 e]), k.fz wm rfl⟩
  · cases hg
@[simp] def gDivmod : List D → Option RV
  | [.int i, .int j] => if 0 < j ∧ j < 1073741824 then some (.fz (.tup [.int (i / j), .int (i % j)])) else none
  | _ => none
theorem c_divmod : Ca X (.builtin "divmod") gDivmod := by
  refine ⟨_, call_divmod, fun W H xs ds r Q wm hx hg k => ?_⟩
  unfold gDivmod at hg
  split at hg
  · split at hg
    · rename_i hz
      cases hg
      obtain ⟨v, v', rfl, h, h'⟩ := hx.two
      cases h
      cases h'
      exact ⟨_, _, rfl, hz, k.tup wm ⟨_, _, rfl, rfl, _, _, rfl, rfl, rfl⟩⟩
    · cases hg
  · cases hg

/-! ### isinstance -/
/-- a datum's type -/
inductive Tg where
  | non | bool | int | str | tup | lst | dic
def Tg.s : Tg → String
  | .non => "NoneType"
  | .bool => "bool"
  | .int => "int"
  | .str => "str"
  | .tup => "tuple"
  | .lst => "list"
  | .dic => "dict"
@[simp] def D.tg : D → Tg
  | .non => .non
  | .bl _ => .bool
  | .int _ => .int
  | .str _ => .str
  | .tup _ => .tup
  | .lst _ => .lst
  | .ro _ => .lst
  | .dic _ _ => .dic
abbrev D.ty (d : D) : String := d.tg.s
theorem tyX {d : D} {v : V} (h : Vz W K H d v) : TyX K H v (.type d.ty) := by
  cases d with
  | non => cases h; exact .base .non
  | bl b => cases (show v = .bl b from h); exact .base (.bl b)
  | int b => cases (show v = .int b from h); exact .base (.int b)
  | str b => cases (show v = .str b from h); exact .base (.str b)
  | tup xs =>
    obtain ⟨a, vs, rfl, h1, _⟩ := h
    rcases h1 with (h1 | ⟨o, h1⟩) | ⟨o, its, n, h1, h2, _⟩
    · exact .base (.tup h1)
    · exact .fTuple h1
    · exact .kTuple h1 h2
  | lst xs => obtain ⟨a, vs, rfl, h1, _⟩ := h; exact .base (.lst h1)
  | ro xs =>
    obtain ⟨a, vs, rfl, h1, _⟩ := h
    rcases h1 with ⟨o, h1⟩ | (h1 | ⟨o, h1⟩) | ⟨o, its, n, h1, h2, _⟩
    · exact .base (.frz h1)
    · cases h1
    · cases h1
    · exact .kList h1 h2
  | dic ks xs => obtain ⟨a, vs, rfl, h1, _⟩ := h; exact .base (.dK h1)
end
/-- the built-in classes that are asked -/
inductive BT where
  | int | bool | str | tuple | list | dict
def BT.s : BT → String
  | .int => "int"
  | .bool => "bool"
  | .str => "str"
  | .tuple => "tuple"
  | .list => "list"
  | .dict => "dict"
@[simp] def isT : BT → Tg → Bool
  | .int, .int => true
  | .int, .bool => true
  | .bool, .bool => true
  | .str, .str => true
  | .tuple, .tup => true
  | .list, .lst => true
  | .dict, .dic => true
  | _, _ => false
@[simp] def isi (T : BT) (d : D) : Bool := isT T d.tg
theorem kit_isT : ∀ (T : BT) (t : Tg), kitB t.s T.s = some (isT T t) := by
  intro T t
  cases T <;> cases t <;> decide +kernel
theorem kit_isi (T : BT) (d : D) : kitB d.ty T.s = some (isi T d) := kit_isT T d.tg
section
variable {X : Cx} {fa : FP} {a : Expr} {p p2 p3 pos : Pos}
/-- isinstance(a, T): ans by the datum's type -/
@[simp] def pIsi (T : BT) (fa : FP) : FP := fun e => (fa e).map fun r => .fz (.bl (isi T r.view))
theorem pp_isi {x : Str} (T : BT) (hm : X.mg "isinstance" = none) (hm2 : X.mg x = none) (ha : PP X a fa) (hg : Gl X "isinstance" := by rfl) (hg2 : Gl X x := by rfl) (hv : bootBuiltins "isinstance" = some (.builtin "isinstance") := by decide +kernel) (hv2 : bootBuiltins x = some (.type T.s) := by decide +kernel)
    (hn : x ≠ "__name__" := by decide) (hdb : (x == ("__debug__" : Str)) = false := by decide) (s1 : starEach [a, .Name x p2] X.env = (false, eval a X.env) :: starEach [.Name x p2] X.env := by rfl) (s2 : starEach [.Name x p2] X.env = (false, eval (.Name x p2) X.env) :: starEach [] X.env := by rfl)
    (hpl : (backTo pos (starEach [.Name x p2] X.env)).any (·.1) = false := by rfl) : PP X (.Call (.Name "isinstance" p) [a, .Name x p2] [] pos) (pIsi T fa) := by
  obtain ⟨t, pa, ka⟩ := ha.run
  refine PP.of ⟨_, pe_callB call_isi hg hm hv (pa_cons pa (pa_cons (pe_bltn (v := .ty T.s) hg2 hm2 hv2 rfl hn hdb) pa_nil s2) s1) (by decide) (by decide) s1 hpl, fun W H σ e Q r sr hf k => ?_⟩
  obtain ⟨r1, e1, hf⟩ := Option.map_eq_some_iff.mp hf
  subst hf
  exact ka W H σ e _ r1 sr e1 fun v W1 H1 g1 k1 => ⟨v, .ty T.s, _, .type T.s, _, rfl, .ty T.s, tyX k1.vz, kit_ty (kit_isi T _), k _ W1 H1 g1 rfl⟩
@[simp] def pIsi2 (T U : BT) (fa : FP) : FP := fun e => (fa e).map fun r => .fz (.bl (isi T r.view || isi U r.view))
theorem pp_isi2 {x y : Str} {ps py pt : Pos} {kk} (T U : BT) (hm : X.mg "isinstance" = none) (hm2 : X.mg x = none) (hm3 : X.mg y = none) (ha : PP X a fa) (hg : Gl X "isinstance" := by rfl) (hg2 : Gl X x := by rfl) (hg3 : Gl X y := by rfl) (hv : bootBuiltins "isinstance" = some (.builtin "isinstance") := by decide +kernel)
    (hv2 : bootBuiltins x = some (.type T.s) := by decide +kernel) (hv3 : bootBuiltins y = some (.type U.s) := by decide +kernel)
    (hn : x ≠ "__name__" := by decide) (hdb : (x == ("__debug__" : Str)) = false := by decide) (hn3 : y ≠ "__name__" := by decide) (hdb3 : (y == ("__debug__" : Str)) = false := by decide)
    (s1 : starEach [a, .Tuple [.Name x p2, .Name y py] kk pt] X.env = (false, eval a X.env) :: starEach [.Tuple [.Name x p2, .Name y py] kk pt] X.env := by rfl)
    (s2 : starEach [.Tuple [.Name x p2, .Name y py] kk pt] X.env = (false, eval (.Tuple [.Name x p2, .Name y py] kk pt) X.env) :: starEach [] X.env := by rfl)
    (s3 : starEach [.Name x p2, .Name y py] X.env = (false, eval (.Name x p2) X.env) :: starEach [.Name y py] X.env := by rfl) (s4 : starEach [.Name y py] X.env = (false, eval (.Name y py) X.env) :: starEach [] X.env := by rfl)
    (hpl : (backTo pos (starEach [.Tuple [.Name x p2, .Name y py] kk pt] X.env)).any (·.1) = false := by rfl) : PP X (.Call (.Name "isinstance" p) [a, .Tuple [.Name x p2, .Name y py] kk pt] [] pos) (pIsi2 T U fa) := by
  obtain ⟨t, pa, ka⟩ := ha.run
  refine PP.of ⟨_, pe_callB call_isiT hg hm hv (pa_cons pa (pa_cons (pe_tup (pa_cons (pe_bltn (v := .ty T.s) hg2 hm2 hv2 rfl hn hdb) (pa_cons (pe_bltn (v := .ty U.s) hg3 hm3 hv3 rfl hn3 hdb3) pa_nil s4) s3)) pa_nil s2) s1) (by decide) (by decide) s1 hpl, fun W H σ e Q r sr hf k => ?_⟩
  obtain ⟨r1, e1, hf⟩ := Option.map_eq_some_iff.mp hf
  subst hf
  refine ka W H σ e _ r1 sr e1 fun v W1 H1 g1 k1 => ⟨by show 2 ≤ sizeLine; decide, fun q hq => ?_⟩
  have g2 : Grow W1 H1 W1 (upd H1 q (.tup [.ty T.s, .ty U.s])) := .tup g1.wm hq
  refine ⟨v, q, [.ty T.s, .ty U.s], .type r1.view.ty, [.type T.s, .type U.s], isi T r1.view || isi U r1.view, rfl, upd_same, .cons (.ty T.s) (.cons (.ty U.s) .nil), tyX (k1.vz.grow g2 g1.wm), ?_, k _ W1 _ (g1.trans g2) rfl⟩
  have h1 : PySem.W.kitOne X.K (.type r1.view.ty) (.type T.s) = some (isi T r1.view) := kit_ty (kit_isi T _)
  have h2 : PySem.W.kitOne X.K (.type r1.view.ty) (.type U.s) = some (isi U r1.view) := kit_ty (kit_isi U _)
  unfold PySem.W.kitAny
  rw [h1]
  cases isi T r1.view with
  | true => rfl
  | false =>
    unfold PySem.W.kitAny
    rw [h2]
    cases isi U r1.view <;> rfl
end
end DL

set_option maxHeartbeats 2000000
namespace DL
open PySem PySem.Spec PyProof.Rows L2

/-! ## what is walked -/
def ItAt (W : List Addr) (K : PySem.W.Frag) (H : Hp) (J : It) (ds : List D) : Prop :=
  (∀ (i : Nat) (d : D), ds[i]? = some d → J.go i H ∧ ∀ x H', J.yld i H x H' → (∀ a o, H a = some o → H' a = some o) ∧ Rp W K H' d x) ∧ J.stop ds.length H
abbrev FI := En → Option (List D × Bool)
def tI (K : PySem.W.Frag) (f : FI) : TI := fun σ H R => ∃ (W : List Addr) (e : En) (ds : List D) (b : Bool), SR W K H σ e ∧ f e = some (ds, b) ∧
  ∀ J W' H', Grow W H W' H' → (∀ W2 H2, (Grow W' H' W2 H2 ∨ (b = true ∧ Ex W' H' W2 H2 ∧ WM W2 H2)) → ItAt W2 K H2 J ds) → R J H'
structure IP (X : Cx) (tg iter : Expr) (f : FI) : Prop where
  pi : PI X tg iter (tI X.K f)
section
variable {X : Cx} {W W' : List Addr} {K : PySem.W.Frag} {H H' : Hp}
theorem itAt_list {a : Addr} {vs : List V} {ds : List D} (h : SqL K H a vs) (r : RpL W K H ds vs) : ItAt W K H (Itl K a) ds := by
  refine ⟨fun i d e => ?_, ⟨vs, h, Nat.le_of_eq r.length.symm⟩⟩
  obtain ⟨v, e2, q⟩ := r.get e
  refine ⟨⟨vs, v, h, e2⟩, fun x H' y => ?_⟩
  obtain ⟨rfl, y⟩ := y
  have z := y vs h
  rw [e2] at z
  cases z
  exact ⟨fun _ _ h => h, q⟩
theorem itAt_tup {a : Addr} {vs : List V} {ds : List D} (h : SqT K H a vs) (r : RpL W K H ds vs) : ItAt W K H (Itt K a) ds := by
  refine ⟨fun i d e => ?_, ⟨vs, h, Nat.le_of_eq r.length.symm⟩⟩
  obtain ⟨v, e2, q⟩ := r.get e
  refine ⟨⟨vs, v, h, e2⟩, fun x H' y => ?_⟩
  obtain ⟨rfl, y⟩ := y
  have z := y vs h
  rw [e2] at z
  cases z
  exact ⟨fun _ _ h => h, q⟩
def signs (z : Str) : List D := z.cps.toList.map fun c => .str ⟨#[c]⟩
theorem itAt_str (z : Str) : ItAt W K H (Its z) (signs z) := by
  have hl : (signs z).length = z.cps.size := by unfold signs; rw [List.length_map, Array.length_toList]
  refine ⟨fun i d e => ?_, by show z.cps.size ≤ _; rw [hl]; exact Nat.le_refl _⟩
  have hi : i < z.cps.size := by rw [← hl]; exact (List.getElem?_eq_some_iff.mp e).1
  refine ⟨hi, fun x H' y => ?_⟩
  obtain ⟨rfl, c, hc, rfl⟩ := y
  refine ⟨fun _ _ h => h, ?_⟩
  unfold signs at e
  rw [List.getElem?_map, Array.getElem?_toList, hc] at e
  cases e
  rfl
def rangeD (lo : Int) (n : Nat) : List D := (List.range n).map fun (i : Nat) => .int (lo + i)
theorem itAt_range (lo : Int) (n : Nat) : ItAt W K H (Itr lo n) (rangeD lo n) := by
  have hl : (rangeD lo n).length = n := by unfold rangeD; rw [List.length_map, List.length_range]
  refine ⟨fun i d e => ?_, by show n ≤ _; rw [hl]; exact Nat.le_refl _⟩
  have hi : i < n := by rw [← hl]; exact (List.getElem?_eq_some_iff.mp e).1
  refine ⟨hi, fun x H' y => ?_⟩
  obtain ⟨rfl, rfl⟩ := y
  refine ⟨fun _ _ h => h, ?_⟩
  unfold rangeD at e
  rw [List.getElem?_map, List.getElem?_range hi] at e
  cases e
  rfl
@[simp] def iSeqR : RV → Option (List D × Bool)
  | .fz (.lst xs) => some (xs, true)
  | .fz (.tup xs) => some (xs, true)
  | .fz (.ro xs) => some (xs, true)
  | .fz (.str z) => some (signs z, true)
  | .fr xs => some (xs, true)
  | .ow xs => some (xs, false)
  | _ => none
@[simp] def iSeq (fa : FP) : FI := fun e => (fa e).bind iSeqR
theorem ip_seq {tg a : Expr} {fa : FP} (ha : PP X a fa) : IP X tg a (iSeq fa) := by
  refine ⟨⟨fun pins s σ H R I ⟨W, e, ds, b, sr, hf, k⟩ => ?_⟩⟩
  obtain ⟨r, e1, hy⟩ := Option.bind_eq_some_iff.mp hf
  unfold iSeqR at hy
  split at hy
  · cases hy
    refine (pi_list ha.pe).run pins s σ H R I ⟨W, e, _, sr, e1, fun v W1 H1 g1 k1 => ?_⟩
    obtain ⟨a, vs, rfl, h1, r1⟩ := k1
    refine ⟨a, rfl, ⟨vs, .of h1.1⟩, k _ W1 H1 g1 fun W2 H2 h2 => ?_⟩
    rcases h2 with g2 | ⟨_, x2, _⟩
    · exact itAt_list (.of (g2.keep _ _ h1.1)) (RpL.mono (g2.ex g1.wm) _ r1)
    · exact itAt_list (.of (x2.lsF h1).1) (RpL.mono x2 _ r1)
  · cases hy
    refine (pi_tup ha.pe).run pins s σ H R I ⟨W, e, _, sr, e1, fun v W1 H1 g1 k1 => ?_⟩
    obtain ⟨a, vs, rfl, h1, r1⟩ := k1
    refine ⟨a, rfl, ⟨vs, h1⟩, k _ W1 H1 g1 fun W2 H2 h2 => ?_⟩
    rcases h2 with g2 | ⟨_, x2, _⟩
    · exact itAt_tup ((g2.ex g1.wm).sqT h1) (RpL.mono (g2.ex g1.wm) _ r1)
    · exact itAt_tup (x2.sqT h1) (RpL.mono x2 _ r1)
  · cases hy
    refine (pi_list ha.pe).run pins s σ H R I ⟨W, e, _, sr, e1, fun v W1 H1 g1 k1 => ?_⟩
    obtain ⟨a, vs, rfl, h1, r1⟩ := k1
    refine ⟨a, rfl, ⟨vs, h1.seq⟩, k _ W1 H1 g1 fun W2 H2 h2 => ?_⟩
    rcases h2 with g2 | ⟨_, x2, _⟩
    · exact itAt_list ((g2.ex g1.wm).roF h1).seq (RpL.mono (g2.ex g1.wm) _ r1)
    · exact itAt_list (x2.roF h1).seq (RpL.mono x2 _ r1)
  · rename_i z
    cases hy
    refine (pi_str ha.pe).run pins s σ H R I ⟨W, e, _, sr, e1, fun v W1 H1 g1 k1 => ?_⟩
    cases (show v = .str z from k1)
    exact ⟨z, rfl, k _ W1 H1 g1 fun W2 H2 h2 => itAt_str z⟩
  · cases hy
    refine (pi_list ha.pe).run pins s σ H R I ⟨W, e, _, sr, e1, fun v W1 H1 g1 k1 => ?_⟩
    obtain ⟨a, vs, rfl, h0, h1, h2, r1⟩ := k1
    have g0 := g1.base sr.wm
    have r0 := RpL.weak g1.sub g1.wm r1
    have na : a ∉ W := fun z => isSome_of_mut (sr.wm a z) h0
    refine ⟨a, rfl, ⟨vs, .of h2⟩, k _ W H1 g0 fun W2 H2 h3 => ?_⟩
    rcases h3 with g2 | ⟨_, x2, _⟩
    · exact itAt_list (.of (g2.keep _ _ h2)) (RpL.mono (g2.ex g0.wm) _ r0)
    · exact itAt_list (.of (x2.keep _ _ h2 na).1) (RpL.mono x2 _ r0)
  · cases hy
    refine (pi_list ha.pe).run pins s σ H R I ⟨W, e, _, sr, e1, fun v W1 H1 g1 k1 => ?_⟩
    obtain ⟨a, vs, rfl, h1, h2, r1⟩ := k1
    refine ⟨a, rfl, ⟨vs, .of h2⟩, k _ W1 H1 g1 fun W2 H2 h3 => ?_⟩
    rcases h3 with g2 | ⟨z, _⟩
    · exact itAt_list (.of (g2.keep _ _ h2)) (RpL.mono (g2.ex g1.wm) _ r1)
    · cases z
  · cases hy
def i62 (j : Int) : Bool := decide (-(2 ^ 62) ≤ j) && decide (j < 2 ^ 62)
theorem i62_ok {j : Int} (h : i62 j = true) : -(2 ^ 62) ≤ j ∧ j < 2 ^ 62 := by
  obtain ⟨h1, h2⟩ := Bool.and_eq_true_iff.mp h
  exact ⟨of_decide_eq_true h1, of_decide_eq_true h2⟩
@[simp] def rgR1 : List RV → Option (List D × Bool)
  | [r] => r.i?.bind fun j => if i62 j = true then some (rangeD 0 j.toNat, true) else none
  | _ => none
@[simp] def rgR2 : List RV → Option (List D × Bool)
  | [r, r'] => r.i?.bind fun i => r'.i?.bind fun j => if i62 i = true ∧ i62 j = true then some (rangeD i (j - i).toNat, true) else none
  | _ => none
@[simp] def iRg1 (fs : FA) : FI := fun e => (fs e).bind rgR1
@[simp] def iRg2 (fs : FA) : FI := fun e => (fs e).bind rgR2
theorem ip_range1 {tg a : Expr} {fs : FA} {p pos : Pos} (hm : X.mg "range" = none) (ha : PPs X [a] fs) (hg : Gl X "range" := by rfl) (hs : starEach [a] X.env = [(false, eval a X.env)] := by rfl) : IP X tg (.Call (.Name "range" p) [a] [] pos) (iRg1 fs) := by
  refine ⟨⟨fun pins s σ H R I ⟨W, e, ds, b, sr, hf, k⟩ => ?_⟩⟩
  obtain ⟨rs, e1, hy⟩ := Option.bind_eq_some_iff.mp hf
  unfold rgR1 at hy
  split at hy
  · obtain ⟨j, e2, hz⟩ := Option.bind_eq_some_iff.mp hy
    have e3 := RV.i?_ok e2
    subst e3
    split at hz
    · rename_i h62
      cases hz
      refine (pi_range1 hg hm ha.pa hs).run pins s σ H R I ⟨W, e, _, sr, e1, fun vs W1 H1 g1 k1 => ?_⟩
      obtain ⟨v, us, rfl, h1, h2⟩ := k1
      cases (show us = [] from h2)
      cases (show v = .int j from h1)
      exact ⟨j, rfl, (i62_ok h62).1, (i62_ok h62).2, k _ W1 H1 g1 fun _ _ _ => itAt_range 0 _⟩
    · cases hz
  · cases hy
theorem ip_range2 {tg a b : Expr} {fs : FA} {p pos : Pos} (hm : X.mg "range" = none) (ha : PPs X [a, b] fs) (hg : Gl X "range" := by rfl) (hs : starEach [a, b] X.env = [(false, eval a X.env), (false, eval b X.env)] := by rfl) (hs2 : starEach [b] X.env = [(false, eval b X.env)] := by rfl) : IP X tg (.Call (.Name "range" p) [a, b] [] pos) (iRg2 fs) := by
  refine ⟨⟨fun pins s σ H R I ⟨W, e, ds, bb, sr, hf, k⟩ => ?_⟩⟩
  obtain ⟨rs, e1, hy⟩ := Option.bind_eq_some_iff.mp hf
  unfold rgR2 at hy
  split at hy
  · obtain ⟨i, e2, hz⟩ := Option.bind_eq_some_iff.mp hy
    obtain ⟨j, e4, hw⟩ := Option.bind_eq_some_iff.mp hz
    have e3 := RV.i?_ok e2
    have e5 := RV.i?_ok e4
    subst e3 e5
    split at hw
    · rename_i h62
      cases hw
      refine (pi_range2 hg hm ha.pa hs hs2).run pins s σ H R I ⟨W, e, _, sr, e1, fun vs W1 H1 g1 k1 => ?_⟩
      obtain ⟨v, us, rfl, h1, v', us', rfl, h1', h2⟩ := k1
      cases (show us' = [] from h2)
      cases (show v = .int i from h1)
      cases (show v' = .int j from h1')
      exact ⟨i, j, rfl, ⟨(i62_ok h62.1).1, (i62_ok h62.1).2, (i62_ok h62.2).1, (i62_ok h62.2).2⟩, k _ W1 H1 g1 fun _ _ _ => itAt_range i _⟩
    · cases hw
  · cases hy
end

/-! ## targets -/
abbrev FG := D → En → Option En
def tG (K : PySem.W.Frag) (vs : List Nat) (f : FG) : TG := fun v σ H Q => ∃ (W : List Addr) (e : En) (d : D) (e' : En), SR W K H σ e ∧ Rp W K H d v ∧ f d e = some e' ∧
  ∀ σ', SR W K H σ' e' → σ'.length = σ.length → (∀ j, j ∉ vs → σ'[j]? = σ[j]?) → (∀ a, Ow σ' e' a → Ow σ e a) → Q σ' H
structure GP (X : Cx) (tg : Expr) (vs : List Nat) (f : FG) : Prop where
  pg : PG X tg (tG X.K vs f)
def tGs (K : PySem.W.Frag) (vs : List Nat) (f : List D → En → Option En) : TGs := fun us σ H Q => ∃ (W : List Addr) (e : En) (ds : List D) (e' : En), SR W K H σ e ∧ RpL W K H ds us ∧ f ds e = some e' ∧
  ∀ σ', SR W K H σ' e' → σ'.length = σ.length → (∀ j, j ∉ vs → σ'[j]? = σ[j]?) → (∀ a, Ow σ' e' a → Ow σ e a) → Q σ' H
structure GPs (X : Cx) (ts : List Expr) (vs : List Nat) (f : List D → En → Option En) : Prop where
  pgs : PGs X ts (tGs X.K vs f)
section
variable {X : Cx} {W W' : List Addr} {K : PySem.W.Frag} {H H' : Hp} {σ : St} {e : En}
/-- a slot is given frozen data -/
theorem SR.setD (r : SR W K H σ e) {i : Nat} (hi : i < σ.length) {d : D} {v : V} (h : Rp W K H d v) : SR W K H (σ.set i (some v)) (e.set i (some (.d d))) where
  wm := r.wm
  len := by rw [List.length_set, List.length_set, r.len]
  sl := fun j s q => by
    by_cases z : i = j
    · subst z
      rw [List.getElem?_set_self (by rw [r.len]; exact hi)] at q
      cases q
      exact ⟨v, List.getElem?_set_self hi, h⟩
    · rw [List.getElem?_set_ne z] at q
      obtain ⟨u, h1, h2⟩ := r.sl j s q
      exact ⟨u, by rw [List.getElem?_set_ne z]; exact h1, h2⟩
  one := fun j l s t a q1 q2 o1 o2 h1 h2 => by
    by_cases z : i = j
    · subst z
      rw [List.getElem?_set_self (by rw [r.len]; exact hi)] at q1
      cases q1
      cases o1
    · by_cases z2 : i = l
      · subst z2
        rw [List.getElem?_set_self (by rw [r.len]; exact hi)] at q2
        cases q2
        cases o2
      · rw [List.getElem?_set_ne z] at q1 h1
        rw [List.getElem?_set_ne z2] at q2 h2
        exact r.one j l s t a q1 q2 o1 o2 h1 h2
theorem Ow.setD {i : Nat} {d : D} {v : V} {a : Addr} (hi : i < e.length) (o : Ow (σ.set i (some v)) (e.set i (some (.d d))) a) : Ow σ e a := by
  obtain ⟨j, s, h1, h2, h3⟩ := o
  by_cases z : i = j
  · subst z
    rw [List.getElem?_set_self hi] at h1
    cases h1
    cases h2
  · rw [List.getElem?_set_ne z] at h1 h3
    exact ⟨j, s, h1, h2, h3⟩
@[simp] def gNm (i : Nat) : FG := fun d e => if i < e.length then some (e.set i (some (.d d))) else none
theorem gp_name (i : Nat) {x : Str} {pos : Pos} {vs : List Nat} (hN : X.N.Nodup) (hi : X.N[i]? = some x := by rfl) (hx : Loc X.env.scope x := by first | exact Or.inl rfl | exact Or.inr rfl) (hv : i ∈ vs := by decide)
    (hf : X.fn x = true ∨ X.env.scope.names.lookup x = some .local := by first | exact .inl rfl | exact .inr rfl | assumption) : GP X (.Name x pos) vs (gNm i) := by
  refine ⟨⟨fun pins s σ H v u Q I r ⟨W, e, d, e', sr, rp, hfd, k⟩ => ?_⟩⟩
  unfold gNm at hfd
  split at hfd
  · rename_i hl
    cases hfd
    refine (pg_name hN hi hx hf).run pins s σ H v u Q I r (k _ (sr.setD (by rw [← sr.len]; exact hl) rp) (List.length_set ..) (fun j hj => List.getElem?_set_ne fun (z : i = j) => hj (by rw [← z]; exact hv)) fun a o => o.setD hl)
  · cases hfd
@[simp] def gsNil : List D → En → Option En := fun ds e => match ds with
  | [] => some e
  | _ => none
@[simp] def gsCons (f : FG) (fs : List D → En → Option En) : List D → En → Option En := fun ds e => match ds with
  | [] => none
  | d :: r => (f d e).bind fun e1 => fs r e1
theorem gps_nil {vs : List Nat} : GPs X [] vs gsNil := by
  refine ⟨⟨fun pins s σ H us vals Q I r ⟨W, e, ds, e', sr, rp, hfd, k⟩ => ?_⟩⟩
  cases ds with
  | nil =>
    cases (show us = [] from rp)
    cases hfd
    exact pgs_nil.run pins s σ H [] vals Q I r ⟨rfl, k σ sr rfl (fun _ _ => rfl) fun _ h => h⟩
  | cons d r => cases hfd
theorem gps_cons {a : Expr} {es : List Expr} {vs : List Nat} {f : FG} {fs : List D → En → Option En} (h1 : GP X a vs f) (h2 : GPs X es vs fs)
    (hs : (assignEach (a :: es) X.env).map (·.2) = assign a X.env :: (assignEach es X.env).map (·.2) := by rfl) : GPs X (a :: es) vs (gsCons f fs) := by
  refine ⟨⟨fun pins s σ H us vals Q I r ⟨W, e, ds, e', sr, rp, hfd, k⟩ => ?_⟩⟩
  cases ds with
  | nil => cases hfd
  | cons d ds =>
    obtain ⟨v, ur, rfl, p1, p2⟩ := rp
    obtain ⟨e1, he1, hfd⟩ := Option.bind_eq_some_iff.mp hfd
    refine (pgs_cons h1.pg h2.pgs hs).run pins s σ H _ vals Q I r ⟨v, ur, rfl, W, e, d, e1, sr, p1, he1, fun σ1 sr1 l1 a1 o1 => ?_⟩
    exact ⟨W, e1, ds, e', sr1, p2, hfd, fun σ2 sr2 l2 a2 o2 => k σ2 sr2 (l2.trans l1) (fun j hj => (a2 j hj).trans (a1 j hj)) fun a h => o1 a (o2 a h)⟩
@[simp] def gTp (n : Nat) (fs : List D → En → Option En) : FG := fun d e => match d with
  | .tup xs => if xs.length = n then fs xs e else none
  | _ => none
theorem gp_tup {es : List Expr} {k : Nat} {pos : Pos} {vs : List Nat} {fs : List D → En → Option En} {n : Nat} (hc : X.calm = true) (h : GPs X es vs fs) (hn : (assignEach es X.env).length = n := by rfl) (hst : (assignEach es X.env).findIdx? (·.1) = none := by rfl) :
    GP X (.Tuple es k pos) vs (gTp n fs) := by
  refine ⟨⟨fun pins s σ H v u Q I r ⟨W, e, d, e', sr, rp, hfd, kk⟩ => ?_⟩⟩
  cases d with
  | tup xs =>
    have hfd' : (if xs.length = n then fs xs e else none) = some e' := hfd
    split at hfd'
    · rename_i hl
      obtain ⟨a, us, e1, q1, q2⟩ := rp
      exact (pg_tup hc h.pgs hn hst).run pins s σ H v u Q I r ⟨a, us, e1, q1, by rw [← q2.length]; exact hl, W, e, xs, e', sr, q2, hfd', kk⟩
    · cases hfd'
  | _ => cases hfd
end

/-! ## list comprehensions -/
@[simp] def wipeE (e : En) : List Nat → En
  | [] => e
  | v :: vs => (wipeE e vs).set v none
theorem wipeE_length (e : En) : ∀ vs : List Nat, (wipeE e vs).length = e.length
  | [] => rfl
  | v :: vs => by unfold wipeE; rw [List.length_set, wipeE_length e vs]
theorem wipeE_in {e : En} {i : Nat} {s : S} : ∀ {vs : List Nat}, (wipeE e vs)[i]? = some (some s) → e[i]? = some (some s) ∧ i ∉ vs
  | [], h => ⟨h, by simp⟩
  | v :: vs, h => by
    unfold wipeE at h
    by_cases hi : v = i
    · subst hi
      by_cases hv : v < (wipeE e vs).length
      · rw [List.getElem?_set_self hv] at h; cases h
      · rw [List.getElem?_eq_none (by simpa using hv)] at h; cases h
    · rw [List.getElem?_set_ne hi] at h
      obtain ⟨h1, h2⟩ := wipeE_in h
      exact ⟨h1, by simp only [List.mem_cons, not_or]; exact ⟨fun z => hi z.symm, h2⟩⟩
theorem wipe_stay {σ : St} {i : Nat} : ∀ {vs : List Nat}, i ∉ vs → (wipe σ vs)[i]? = σ[i]?
  | [], _ => rfl
  | v :: vs, h => by
    unfold wipe
    rw [List.getElem?_set_ne fun z => h (by rw [z]; exact List.mem_cons_self), wipe_stay fun z => h (List.mem_cons_of_mem _ z)]
theorem wipe_gone {σ : St} {i : Nat} : ∀ {vs : List Nat}, i ∈ vs → i < σ.length → (wipe σ vs)[i]? = some none
  | v :: vs, h, hl => by
    unfold wipe
    by_cases z : v = i
    · subst z
      rw [List.getElem?_set_self (by rw [wipe_length]; exact hl)]
    · rw [List.getElem?_set_ne z]
      rcases List.mem_cons.mp h with q | q
      · exact absurd q.symm z
      · exact wipe_gone q hl
theorem wipe_same {σ σ' : St} {vs : List Nat} (hl : σ'.length = σ.length) (h : ∀ j, j ∉ vs → σ'[j]? = (wipe σ vs)[j]?) : wipe σ' vs = wipe σ vs := by
  apply List.ext_getElem?
  intro i
  by_cases hi : i ∈ vs
  · by_cases hn : i < σ.length
    · rw [wipe_gone hi hn, wipe_gone hi (by rw [hl]; exact hn)]
    · rw [List.getElem?_eq_none (by rw [wipe_length, hl]; omega), List.getElem?_eq_none (by rw [wipe_length]; omega)]
  · rw [wipe_stay hi]
    exact h i hi
section
variable {X : Cx} {W W' : List Addr} {K : PySem.W.Frag} {H H' : Hp} {σ : St} {e : En}
theorem SR.wipe (r : SR W K H σ e) (vs : List Nat) : SR W K H (L2.wipe σ vs) (wipeE e vs) where
  wm := r.wm
  len := by rw [wipeE_length, wipe_length, r.len]
  sl := fun i s q => by
    obtain ⟨q1, n⟩ := wipeE_in q
    obtain ⟨v, h1, h2⟩ := r.sl i s q1
    exact ⟨v, by rw [wipe_stay n]; exact h1, h2⟩
  one := fun i j s t a q1 q2 o1 o2 h1 h2 => by
    obtain ⟨q1, n1⟩ := wipeE_in q1
    obtain ⟨q2, n2⟩ := wipeE_in q2
    rw [wipe_stay n1] at h1
    rw [wipe_stay n2] at h2
    exact r.one i j s t a q1 q2 o1 o2 h1 h2
end
/-- the comprehension's tests -/
structure TPs (X : Cx) (ifs : List Expr) (f : FT) : Prop where
  pts : PTs X ifs (tT X.K f)
@[simp] def tAll : FT := fun _ => some true
theorem tps_nil {X : Cx} : TPs X [] tAll := ⟨⟨fun pins s σ H Q I ⟨W, e, b, sr, hf, k⟩ => by cases hf; exact pts_nil.run pins s σ H Q I (k W H (.refl sr.wm))⟩⟩
theorem tps_one {X : Cx} {c : Expr} {f : FT} (h : TP X c f) : TPs X [c] f := ⟨pts_one h.pt⟩
@[simp] def lcL (bind : FG) (ft : FT) (fe : FP) (e : En) : List D → Option (List D)
  | [] => some []
  | d :: ds => (bind d e).bind fun e1 => (ft e1).bind fun b => if b = true then (fe e1).bind fun r => r.item.bind fun x => (lcL bind ft fe e ds).map fun xs => x :: xs else lcL bind ft fe e ds
@[simp] def pLc (vs : List Nat) (fi : FI) (bind : FG) (ft : FT) (fe : FP) : FP := fun e => (fi e).bind fun p => (lcL bind ft fe (wipeE e vs) p.1).bind fun xs => if xs.length ≤ SZ then some (.fr xs) else none

section
variable {K : PySem.W.Frag}
/-- between the turns: what is made (done, at D) and what is to come -/
structure LcAt (K : PySem.W.Frag) (W' : List Addr) (H1 : Hp) (D0 : Addr) (bind : FG) (ft : FT) (fe : FP) (e : En) (ds xs : List D) (i : Nat) (H : Hp) (W2 : List Addr) (dn rest : List D) (acc : List V) : Prop where
  g : Grow W' H1 W2 H
  dm : D0 ∈ W2
  at_ : H D0 = some (.lst acc)
  rp : RpL W2 K H dn acc
  todo : lcL bind ft fe e (ds.drop i) = some rest
  all : dn ++ rest = xs
end
theorem lc_read {K : PySem.W.Frag} {W W' : List Addr} {H H1 : Hp} {σ : St} {e : En} {J : It} {ds xs : List D} {vs : List Nat} {bind : FG} {ft : FT} {fe : FP} {Q : VK} {D0 : Addr} (sr : SR W K H σ e) (g1 : Grow W H W' H1) (hn : H1 D0 = none)
    (it : ∀ W2 H2, Grow W' H1 W2 H2 → ItAt W2 K H2 J ds) (hx : lcL bind ft fe (wipeE e vs) ds = some xs) (hz : xs.length ≤ SZ) (k : KQ W K H (.fr xs) Q) :
    ∃ Wi : Nat → Nat → Hp → Prop, (∃ m, Wi 0 m (upd H1 D0 (.lst []))) ∧ ∀ i m H, Wi i m H →
      (J.stop i H ∧ Q (.ref D0) H) ∨ (J.go i H ∧ ∃ Nx : Hp → Prop, (∀ H', Nx H' → ∃ m', m' < m ∧ Wi (i + 1) m' H') ∧ ∀ x H', J.yld i H x H' → tG K vs bind x (wipe σ vs) H' fun σ2 H2 => wipe σ2 vs = wipe σ vs ∧ tT K ft σ2 H2 fun b H3 =>
        if b = true then tP K fe σ2 H3 fun y H4 => ∃ acc, H4 D0 = some (.lst acc) ∧ acc.length < sizeLine ∧ Nx (upd H4 D0 (.lst (acc ++ [y]))) else Nx H3) := by
  refine ⟨fun i m H => m = ds.length - i ∧ i ≤ ds.length ∧ ∃ W2 dn rest acc, LcAt K W' H1 D0 bind ft fe (wipeE e vs) ds xs i H W2 dn rest acc, ⟨ds.length, rfl, Nat.zero_le _, D0 :: W', [], xs, [], ?_⟩, ?_⟩
  · exact ⟨.lst g1.wm hn, List.mem_cons_self, upd_same, rfl, hx, rfl⟩
  · rintro i m H2 ⟨rfl, hi, W2, dn, rest, acc, L⟩
    have I2 := it W2 H2 L.g
    by_cases hlt : i < ds.length
    · refine .inr ?_
      obtain ⟨d, hd⟩ : ∃ d, ds[i]? = some d := ⟨ds[i], List.getElem?_eq_getElem hlt⟩
      obtain ⟨hgo, hy⟩ := I2.1 i d hd
      refine ⟨hgo, fun H' => ∃ W2 dn rest acc, LcAt K W' H1 D0 bind ft fe (wipeE e vs) ds xs (i + 1) H' W2 dn rest acc, fun H' q => ⟨ds.length - (i + 1), by omega, rfl, hlt, q⟩, fun x H3 y => ?_⟩
      obtain ⟨kp, rp⟩ := hy x H3 y
      have todo := L.todo
      have ed : ds.drop i = d :: ds.drop (i + 1) := by
        rw [List.drop_eq_getElem_cons hlt]
        rw [List.getElem?_eq_getElem hlt] at hd
        cases hd
        rfl
      rw [ed] at todo
      obtain ⟨e1, he1, todo⟩ := Option.bind_eq_some_iff.mp todo
      obtain ⟨b, hb, todo⟩ := Option.bind_eq_some_iff.mp todo
      have g3 : Grow W2 H2 W2 H3 := .of L.g.wm kp
      have srw : SR W2 K H3 (wipe σ vs) (wipeE e vs) := ((g1.trans L.g).trans g3).sr (sr.wipe vs)
      refine ⟨W2, wipeE e vs, d, e1, srw, rp, he1, fun σ1 sr1 l1 a1 o1 => ⟨wipe_same (l1.trans (wipe_length σ vs)) a1, ?_⟩⟩
      refine ⟨W2, e1, b, sr1, hb, fun W4 H4 g4 => ?_⟩
      have g24 := g3.trans g4
      have at4 := g24.keep _ _ L.at_
      have rp4 := RpL.mono (g24.ex L.g.wm) _ L.rp
      have dm4 := g24.sub _ L.dm
      have g14 := L.g.trans g24
      cases b with
      | false => exact iteF ⟨W4, dn, rest, acc, g14, dm4, at4, rp4, todo, L.all⟩
      | true =>
        refine iteT ?_
        obtain ⟨r, hr, todo⟩ := Option.bind_eq_some_iff.mp todo
        obtain ⟨z, hz1, todo⟩ := Option.bind_eq_some_iff.mp todo
        obtain ⟨rest', hr2, erest⟩ := Option.map_eq_some_iff.mp todo
        refine ⟨W4, e1, r, g4.sr sr1, hr, fun yv W5 H5 g5 k5 => ?_⟩
        have g50 := g5.base g4.wm
        have at5 := g5.keep _ _ at4
        have rp5 := RpL.mono (g50.ex g4.wm) _ rp4
        have rz := k5.item g5 g4.wm hz1
        have x6 : Ex W4 H5 W4 (upd H5 D0 (.lst (acc ++ [yv]))) := ⟨g50.wm, fun a o h n => ⟨by rw [upd_ne fun (q : a = D0) => n (by rw [q]; exact dm4)]; exact h, n⟩⟩
        refine ⟨acc, at5, ?_, W4, dn ++ [z], rest', acc ++ [yv], ⟨?_, dm4, upd_same, RpL.mono x6 _ (rp5.append (.one rz)), hr2, by rw [List.append_assoc, ← L.all, ← erest]; rfl⟩⟩
        · have q := L.all
          rw [← erest] at q
          have q2 := congrArg List.length q
          rw [List.length_append, List.length_cons] at q2
          have q3 := L.rp.length
          rw [SZ_eq]
          omega
        · have g15 := g14.trans g50
          exact ⟨fun a o h => by rw [upd_ne (ne_of_none h hn)]; exact g15.keep a o h, g15.sub, g15.new, fun a h => by
            by_cases q : a = D0
            · subst q; rw [upd_same]; trivial
            · rw [upd_ne q]; exact g15.wm a h⟩
    · have ei : i = ds.length := by omega
      subst ei
      refine .inl ⟨I2.2, ?_⟩
      have todo := L.todo
      rw [List.drop_length] at todo
      cases todo
      have ea := L.all
      rw [List.append_nil] at ea
      subst ea
      exact k _ W2 H2 (g1.trans L.g) ⟨D0, acc, rfl, g1.fresh hn, L.dm, L.at_, L.rp⟩
section
variable {X : Cx}
theorem pp_lc {elt tg iter : Expr} {ifs : List Expr} {scope : Scope} {own : List (Str × Nat)} {pos : Pos} {fi : FI} {bind : FG} {ft : FT} {fe : FP} (hc : X.calm = true) (hN : X.N.Nodup) (hi : IP X tg iter fi) (ok : BlkOk X.N X.env.scope scope own)
    (hg : ∀ (s : Shared) (H : Hp) (C : Addr) (cl : List (Str × Addr)) (fp : List Addr), GP (X.blk s H scope (compEnvC scope cl C X.env) fp) tg (own.map (·.2)) bind)
    (ht : ∀ (s : Shared) (H : Hp) (C : Addr) (cl : List (Str × Addr)) (fp : List Addr), TPs (X.blk s H scope (compEnvC scope cl C X.env) fp) ifs ft)
    (he : ∀ (s : Shared) (H : Hp) (C : Addr) (cl : List (Str × Addr)) (fp : List Addr), PP (X.blk s H scope (compEnvC scope cl C X.env) fp) elt fe)
    (hs : ∀ x, foldedSetIterable iter X.env x = pure x := by intro _; rfl) : PP X (.ListComp elt [⟨tg, iter, ifs, 0⟩] scope pos) (pLc (own.map (·.2)) fi bind ft fe) := by
  refine PP.of ⟨_, pe_lc (g := tG X.K (own.map (·.2)) bind) (tt := tT X.K ft) (te := tP X.K fe) hc hN hi.pi ok (fun s H C cl fp => (hg s H C cl fp).pg) (fun s H C cl fp => (ht s H C cl fp).pts) (fun s H C cl fp => (he s H C cl fp).pe) hs, fun W H σ e Q r sr hf k => ?_⟩
  obtain ⟨⟨ds, bb⟩, e1, hf⟩ := Option.bind_eq_some_iff.mp hf
  obtain ⟨xs, e2, hf⟩ := Option.bind_eq_some_iff.mp hf
  split at hf
  · rename_i hz
    cases hf
    exact ⟨W, e, ds, bb, sr, e1, fun J W' H1 g1 it D0 hn => lc_read sr g1 hn (fun W2 H2 g => it W2 H2 (.inl g)) e2 hz k⟩
  · cases hf
end
end DL

set_option maxHeartbeats 2000000
namespace DL
open PySem PySem.Spec PyProof.Rows L2

/-! ## effectful expressions, one behind another -/
@[simp] def Out.bind (o : Out) (f : D → En → Out) : Out := match o with
  | .stuck => .stuck
  | .ok s e => f s.view e
  | .ex x e => .ex x e
@[simp] def rvO (o : Option RV) (e : En) : Out := match o with
  | some (.fz x) => .ok (.d x) e
  | some (.fr xs) => .ok (.lst xs) e
  | _ => .stuck
inductive OL where
  | stuck | ok (ds : List D) (e : En) | ex (x : XD) (e : En)
@[simp] def OL.bind (o : OL) (f : List D → En → Out) : Out := match o with
  | .stuck => .stuck
  | .ok ds e => f ds e
  | .ex x e => .ex x e
@[simp] def OL.cons (d : D) (o : OL) : OL := match o with
  | .stuck => .stuck
  | .ok ds e => .ok (d :: ds) e
  | .ex x e => .ex x e
@[simp] def Out.cons (o : Out) (fs : En → OL) : OL := match o with
  | .stuck => .stuck
  | .ok s e => OL.cons s.view (fs e)
  | .ex x e => .ex x e
section
variable {W W' W1 W2 : List Addr} {K : PySem.W.Frag} {mg : Str → Option Value} {Wx : WX} {H H' H1 H2 : Hp} {σ : St} {e e' e1 : En} {Q Q0 : VK}
theorem OutK.go (x : EX W H σ e W1 H1 σ e1) : ∀ {o : Out}, OutK K mg Wx W H σ e Q o → OutK K mg Wx W1 H1 σ e1 Q o
  | .stuck, h => h
  | .ok s e', h => fun v W' H' sr y r f => h v W' H' sr (x.trans y) r fun o a q => ⟨x.dom a (f o a q).1, (f o a q).2⟩
  | .ex z e', h => fun c d W' H' sr y r => h c d W' H' sr (x.trans y) r
/-- the value frozen -/
def DK (K : PySem.W.Frag) (mg : Str → Option Value) (Wx : WX) (W : List Addr) (H : Hp) (σ : St) (e : En) (Q : VK) : Out → Prop
  | .stuck => False
  | .ok s e' => ∀ v W' H', SR W' K H' σ e' → EX W H σ e W' H' σ e' → Rp W' K H' s.view v → Q v H'
  | .ex x e' => ∀ cls d W' H', SR W' K H' σ e' → EX W H σ e W' H' σ e' → XR mg W' K H' x cls d → Wx cls d σ H'
/-- less is owned -/
theorem SR.less (r : SR W' K H' σ e) (s : ∀ a ∈ W, a ∈ W') (o : ∀ a, Ow σ e a → a ∈ W) : SR W K H' σ e where
  wm := fun a h => r.wm a (s a h)
  len := r.len
  sl := fun i t h => by
    obtain ⟨v, h1, h2⟩ := r.sl i t h
    refine ⟨v, h1, ?_⟩
    cases t with
    | d x => exact Rp.weak s (fun a h => r.wm a (s a h)) h2 r.wm
    | lst xs =>
      obtain ⟨a, vs, rfl, q1, q2, q3⟩ := h2
      exact ⟨a, vs, rfl, o a ⟨i, _, h, rfl, h1⟩, q2, RpL.weak s r.wm q3⟩
  one := r.one
theorem mem_drop {a b : Addr} {W : List Addr} : b ∈ W.filter (fun z => decide (z ≠ a)) ↔ b ∈ W ∧ b ≠ a := by
  rw [List.mem_filter]
  simp
/-- what is new and nobody's is frozen -/
theorem freeze {xs : List D} {v : V} (wm : WM W H) (sr : SR W' K H' σ e') (y : EX W H σ e W' H' σ e') (r : RS W' K H' (.lst xs) v) (f : ∀ a, v = .ref a → H a = none ∧ ¬ Ow σ e' a) :
    ∃ W2, SR W2 K H' σ e' ∧ EX W H σ e W2 H' σ e' ∧ Rp W2 K H' (.lst xs) v := by
  obtain ⟨a, vs, rfl, q1, q2, q3⟩ := r
  obtain ⟨f1, f2⟩ := f a rfl
  have sb : ∀ b ∈ W'.filter (fun z => decide (z ≠ a)), b ∈ W' := fun b hb => (mem_drop.mp hb).1
  have sr2 : SR (W'.filter fun z => decide (z ≠ a)) K H' σ e' := sr.less sb fun b o => mem_drop.mpr ⟨sr.ow o, fun z => f2 (z ▸ o)⟩
  refine ⟨_, sr2, ⟨y.keep, fun b o q n z => y.frz b o q n (sb b z), fun b hb n => ?_, y.sub, y.dom⟩, ⟨a, vs, rfl, ⟨q2, fun z => (mem_drop.mp z).2 rfl⟩, RpL.weak sb sr.wm q3⟩⟩
  obtain ⟨h1, h2⟩ := y.tmp b hb n
  refine ⟨mem_drop.mpr ⟨h1, fun z => ?_⟩, h2⟩
  subst z
  exact isSome_of_mut (wm b hb) f1
theorem DK.out (wm : WM W H) : ∀ {o : Out}, DK K mg Wx W H σ e Q o → OutK K mg Wx W H σ e Q o
  | .stuck, h => h
  | .ex z e', h => h
  | .ok (.d x) e', h => fun v W' H' sr y r _ => h v W' H' sr y r
  | .ok (.lst xs) e', h => fun v W' H' sr y r f => by
    obtain ⟨W2, s2, y2, r2⟩ := freeze wm sr y r (f rfl)
    exact h _ _ H' s2 y2 r2
theorem DK.bind {o : Out} {f : D → En → Out} (wm : WM W H) (h : OutK K mg Wx W H σ e Q (o.bind f))
    (k : ∀ d v e1 W1 H1, SR W1 K H1 σ e1 → EX W H σ e W1 H1 σ e1 → Rp W1 K H1 d v → OutK K mg Wx W1 H1 σ e1 Q (f d e1) → Q0 v H1) : OutK K mg Wx W H σ e Q0 o :=
  DK.out wm (match o with
    | .stuck => h
    | .ex z e' => h
    | .ok s e1 => fun v W1 H1 sr1 x r => k s.view v e1 W1 H1 sr1 x r (OutK.go (o := f s.view e1) x h))
theorem OutK.rv (sr : SR W K H σ e) : ∀ {r : RV}, OutK K mg Wx W H σ e Q (rvO (some r) e) → KQ W K H r Q
  | .fz x, h => fun v W' H' g q => h v W' H' (g.sr sr) (g.fx sr) q fun z => nomatch z
  | .fr xs, h => fun v W' H' g q => by
    obtain ⟨a, vs, ev, h0, h1, h2, h3⟩ := q
    exact h v W' H' (g.sr sr) (g.fx sr) ⟨a, vs, ev, h1, h2, h3⟩ fun _ b eb => by
      rw [ev] at eb
      cases eb
      exact ⟨h0, fun o => sr.thr (sr.ow o) h0⟩
  | .ow xs, h => h.elim
theorem OutK.rvo (sr : SR W K H σ e) {o : Option RV} (h : OutK K mg Wx W H σ e Q (rvO o e)) : ∃ r, o = some r ∧ KQ W K H r Q := by
  cases o with
  | none => exact h.elim
  | some r => exact ⟨r, rfl, OutK.rv sr h⟩
/-- several values -/
def OLK (K : PySem.W.Frag) (mg : Str → Option Value) (Wx : WX) (W : List Addr) (H : Hp) (σ : St) (e : En) (Q : List V → Hp → Prop) : OL → Prop
  | .stuck => False
  | .ok ds e' => ∀ vs W' H', SR W' K H' σ e' → EX W H σ e W' H' σ e' → RpL W' K H' ds vs → Q vs H'
  | .ex x e' => ∀ cls d W' H', SR W' K H' σ e' → EX W H σ e W' H' σ e' → XR mg W' K H' x cls d → Wx cls d σ H'
theorem OLK.bind {o : OL} {f : List D → En → Out} {Q0 : List V → Hp → Prop} (h : OutK K mg Wx W H σ e Q (o.bind f))
    (k : ∀ ds vs e1 W1 H1, SR W1 K H1 σ e1 → EX W H σ e W1 H1 σ e1 → RpL W1 K H1 ds vs → OutK K mg Wx W1 H1 σ e1 Q (f ds e1) → Q0 vs H1) : OLK K mg Wx W H σ e Q0 o :=
  match o with
    | .stuck => h
    | .ex z e' => h
    | .ok ds e1 => fun vs W1 H1 sr1 x r => k ds vs e1 W1 H1 sr1 x r (OutK.go (o := f ds e1) x h)
theorem OLK.go {Q : List V → Hp → Prop} (x : EX W H σ e W1 H1 σ e1) : ∀ {o : OL}, OLK K mg Wx W H σ e Q o → OLK K mg Wx W1 H1 σ e1 Q o
  | .stuck, h => h
  | .ok s e', h => fun v W' H' sr y r => h v W' H' sr (x.trans y) r
  | .ex z e', h => fun c d W' H' sr y r => h c d W' H' sr (x.trans y) r
theorem RpL.vzL : ∀ {ds : List D} {vs : List V}, RpL W K H ds vs → VzL W K H ds vs
  | [], _, h => h
  | d :: ds, _, ⟨v, us, ev, h1, h2⟩ => ⟨v, us, ev, .of h1, RpL.vzL h2⟩
end
abbrev FL := En → OL
def tMs (K : PySem.W.Frag) (mg : Str → Option Value) (Wx : WX) (f : FL) : TA := fun σ H Q => ∃ (W : List Addr) (e : En), SR W K H σ e ∧ OLK K mg Wx W H σ e Q (f e)
structure PMs (X : Cx) (Wx : WX) (es : List Expr) (f : FL) : Prop where
  pa : PA X es (tMs X.K X.mg Wx f)
theorem PMs.of {X : Cx} {Wx : WX} {es : List Expr} {f : FL} (h : ∃ t : TA, PA X es t ∧ ∀ (W : List Addr) (H : Hp) (σ : St) (e : En) (Q : List V → Hp → Prop), SR W X.K H σ e → OLK X.K X.mg Wx W H σ e Q (f e) → t σ H Q) : PMs X Wx es f :=
  let ⟨_, p, k⟩ := h; ⟨⟨fun pos pins s σ H Q I ⟨W, e, a, b⟩ => p.run pos pins s σ H Q I (k W H σ e Q a b)⟩⟩
theorem PMs.run {X : Cx} {Wx : WX} {es : List Expr} {f : FL} (h : PMs X Wx es f) : ∃ t : TA, PA X es t ∧ ∀ (W : List Addr) (H : Hp) (σ : St) (e : En) (Q : List V → Hp → Prop), SR W X.K H σ e → OLK X.K X.mg Wx W H σ e Q (f e) → t σ H Q :=
  ⟨_, h.pa, fun W H σ e Q a b => ⟨W, e, a, b⟩⟩
section
variable {X : Cx} {Wx : WX} {a b c : Expr} {es rest : List Expr} {fa fb fc : FM} {fs : FL} {pos : Pos} {g : D → D → Option RV}
@[simp] def mPP (f : FP) : FM := fun e => rvO (f e) e
theorem pm_pp {f : FP} (h : PP X a f) : PM X Wx a (mPP f) := by
  obtain ⟨t, p, k⟩ := h.run
  refine PM.of ⟨t, p, fun W H σ e Q sr h => ?_⟩
  obtain ⟨r, er, kq⟩ := OutK.rvo sr h
  exact k W H σ e Q r sr er kq
@[simp] def m2 (g : D → D → Option RV) (fa fb : FM) : FM := fun e => (fa e).bind fun a e1 => (fb e1).bind fun b e2 => rvO (g a b) e2
theorem pm_two {rl : R2} {t : TE} {q : Expr} (pt : ∀ ta tb, PE X a ta → PE X b tb → PE X q (tOp rl ta tb)) (h2 : ∀ (W : List Addr) (H : Hp) (x y : V) (dx dy : D) (r : RV) (Q : VK), WM W H → Vz W X.K H dx x → Vz W X.K H dy y → g dx dy = some r → KQ W X.K H r Q → rl x y H Q)
    (ha : PM X Wx a fa) (hb : PM X Wx b fb) : PM X Wx q (m2 g fa fb) := by
  obtain ⟨ta, pa, ka⟩ := ha.run
  obtain ⟨tb, pb, kb⟩ := hb.run
  refine PM.of ⟨_, pt _ _ pa pb, fun W H σ e Q sr h => ?_⟩
  refine ka W H σ e _ sr (DK.bind sr.wm h fun d v e1 W1 H1 sr1 x1 r1 h1 => kb W1 H1 σ e1 _ sr1 (DK.bind sr1.wm h1 fun d2 u e2 W2 H2 sr2 x2 r2 h2' => ?_))
  obtain ⟨r, er, kq⟩ := OutK.rvo sr2 h2'
  exact h2 W2 H2 v u d d2 r Q sr2.wm (.of (Rp.mono (x2.ex sr1) d r1)) (.of r2) er kq
theorem pm_bin {op : Operator} (ho : Op2 X (binaryOp op) g) (ha : PM X Wx a fa) (hb : PM X Wx b fb) : PM X Wx (.BinOp a op b pos) (m2 g fa fb) := by
  obtain ⟨rl, h1, h2⟩ := ho.run
  exact pm_two (t := tNone) (fun ta tb pa pb => pe_op h1 pa pb) h2 ha hb
where tNone : TE := fun _ _ _ => True
theorem pm_cmp {op : CmpOp} (ho : Op2 X (compareOp op) g) (ha : PM X Wx a fa) (hb : PM X Wx b fb) (hm : behindInMarks op b = false := by first | exact nomark _ | with_unfolding_all rfl) : PM X Wx (.Compare a [op] [b] pos) (m2 g fa fb) := by
  obtain ⟨rl, h1, h2⟩ := ho.run
  exact pm_two (t := pm_bin.tNone) (fun ta tb pa pb => pe_cmpR h1 pa pb hm) h2 ha hb
theorem pm_ix (ha : PM X Wx a fa) (hb : PM X Wx b fb) (hs : PlainIx b := by intro _ _; rfl) : PM X Wx (.Subscript a b pos) (m2 gIx fa fb) := by
  obtain ⟨rl, h1, h2⟩ := (ix_ok (X := X)).run
  exact pm_two (t := pm_bin.tNone) (fun ta tb pa pb => pe_ix h1 pa pb hs) h2 ha hb
/-! ### and, or, not, if as values -/
def D.b? : D → Option Bool
  | .bl b => some b
  | _ => none
@[simp] def mAnd (fa fb : FM) : FM := fun e => (fa e).bind fun a e1 => match a with
  | .bl b => if b = true then fb e1 else .ok (.d (.bl false)) e1
  | _ => .stuck
@[simp] def mOr (fa fb : FM) : FM := fun e => (fa e).bind fun a e1 => match a with
  | .bl b => if b = true then .ok (.d (.bl true)) e1 else fb e1
  | _ => .stuck
@[simp] def mNot (fa : FM) : FM := fun e => (fa e).bind fun a e1 => match a with
  | .bl b => .ok (.d (.bl (!b))) e1
  | _ => .stuck
theorem OutK.d {W : List Addr} {K : PySem.W.Frag} {mg : Str → Option Value} {H : Hp} {σ : St} {e : En} {Q : VK} {x : D} {v : V} (sr : SR W K H σ e) (h : OutK K mg Wx W H σ e Q (.ok (.d x) e)) (r : Rp W K H x v) : Q v H :=
  h v W H sr .refl r fun z => nomatch z
theorem pm_one {op} (h : PM X Wx a fa) : PM X Wx (.BoolOp op [a] pos) fa := let ⟨t, p, k⟩ := h.run; PM.of ⟨t, pe_one p, k⟩
theorem pm_and (ha : PM X Wx a fa) (hb : PM X Wx (.BoolOp .And (b :: rest) pos) fb) : PM X Wx (.BoolOp .And (a :: b :: rest) pos) (mAnd fa fb) := by
  obtain ⟨t, p, ka⟩ := ha.run
  obtain ⟨u, p', kb⟩ := hb.run
  refine PM.of ⟨_, pe_and p p', fun W H σ e Q sr h => ka W H σ e _ sr (DK.bind sr.wm h fun d v e1 W1 H1 sr1 x1 r1 h1 => ?_)⟩
  cases d with
  | bl q =>
    refine ⟨q, r1, ?_⟩
    cases q with
    | true => exact kb W1 H1 σ e1 Q sr1 h1
    | false => exact OutK.d sr1 h1 rfl
  | _ => exact h1.elim
theorem pm_or (ha : PM X Wx a fa) (hb : PM X Wx (.BoolOp .Or (b :: rest) pos) fb) : PM X Wx (.BoolOp .Or (a :: b :: rest) pos) (mOr fa fb) := by
  obtain ⟨t, p, ka⟩ := ha.run
  obtain ⟨u, p', kb⟩ := hb.run
  refine PM.of ⟨_, pe_or p p', fun W H σ e Q sr h => ka W H σ e _ sr (DK.bind sr.wm h fun d v e1 W1 H1 sr1 x1 r1 h1 => ?_)⟩
  cases d with
  | bl q =>
    refine ⟨q, r1, ?_⟩
    cases q with
    | false => exact kb W1 H1 σ e1 Q sr1 h1
    | true => exact OutK.d sr1 h1 rfl
  | _ => exact h1.elim
theorem pm_not (ha : PM X Wx a fa) : PM X Wx (.UnaryOp .Not a pos) (mNot fa) := by
  obtain ⟨t, p, ka⟩ := ha.run
  refine PM.of ⟨_, pe_not p, fun W H σ e Q sr h => ka W H σ e _ sr (DK.bind sr.wm h fun d v e1 W1 H1 sr1 x1 r1 h1 => ?_)⟩
  cases d with
  | bl q => exact ⟨q, r1, OutK.d sr1 h1 rfl⟩
  | _ => exact h1.elim
@[simp] def mIf (t : FT) (fa fb : FM) : FM := fun e => match t e with
  | some q => if q = true then fa e else fb e
  | none => .stuck
theorem pm_if {ft : FT} (hc : TP X c ft) (ha : PM X Wx a fa) (hb : PM X Wx b fb) : PM X Wx (.IfExp c a b pos) (mIf ft fa fb) := by
  obtain ⟨t, p, kc⟩ := hc.run
  obtain ⟨ua, pa, ka⟩ := ha.run
  obtain ⟨ub, pb, kb⟩ := hb.run
  refine PM.of ⟨_, pe_ifExp p pa pb, fun W H σ e Q sr h => ?_⟩
  unfold mIf at h
  split at h
  · rename_i q eq
    refine kc W H σ e _ q sr eq fun W1 H1 g1 => ?_
    have h' := OutK.go (g1.fx sr) h
    cases q with
    | true => exact ka W1 H1 σ e Q (g1.sr sr) h'
    | false => exact kb W1 H1 σ e Q (g1.sr sr) h'
  · exact h.elim
/-! ### argument lists, displays, built-in functions -/
@[simp] def lNil : FL := fun e => .ok [] e
@[simp] def lCons (fa : FM) (fs : FL) : FL := fun e => (fa e).cons fs
theorem am_nil : PMs X Wx [] lNil := PMs.of ⟨_, pa_nil, fun W H σ e Q sr h => h [] W H sr .refl rfl⟩
theorem OLK.cons {W : List Addr} {K : PySem.W.Frag} {mg : Str → Option Value} {H : Hp} {σ : St} {e : En} {Q : List V → Hp → Prop} {d : D} {v : V} (sr : SR W K H σ e) (r : Rp W K H d v) : ∀ {o : OL}, OLK K mg Wx W H σ e Q (OL.cons d o) → OLK K mg Wx W H σ e (fun us H' => Q (v :: us) H') o
  | .stuck, h => h
  | .ex _ _, h => h
  | .ok ds e', h => fun us W' H' sr' x r' => h (v :: us) W' H' sr' x ⟨v, us, rfl, Rp.mono (x.ex sr) d r, r'⟩
theorem am_cons (ha : PM X Wx a fa) (hr : PMs X Wx es fs) (hs : starEach (a :: es) X.env = (false, eval a X.env) :: starEach es X.env := by rfl) : PMs X Wx (a :: es) (lCons fa fs) := by
  obtain ⟨t, p, ka⟩ := ha.run
  obtain ⟨u, p', kb⟩ := hr.run
  refine PMs.of ⟨_, pa_cons p p' hs, fun W H σ e Q sr h => ka W H σ e _ sr ?_⟩
  unfold lCons at h
  revert h
  generalize fa e = o
  intro h
  refine DK.out sr.wm ?_
  cases o with
  | stuck => exact h
  | ex x e1 => exact h
  | ok s e1 =>
    intro v W1 H1 sr1 x r
    exact kb W1 H1 σ e1 _ sr1 (OLK.cons sr1 r (OLK.go x h))
@[simp] def mTup (fs : FL) : FM := fun e => (fs e).bind fun ds e1 => rvO (if ds.length ≤ SZ then some (.fz (.tup ds)) else none) e1
@[simp] def mLst (fs : FL) : FM := fun e => (fs e).bind fun ds e1 => rvO (if ds.length ≤ SZ then some (.fr ds) else none) e1
theorem pm_tup {x1} (h : PMs X Wx es fs) : PM X Wx (.Tuple es x1 pos) (mTup fs) := by
  obtain ⟨t, p, ka⟩ := h.run
  refine PM.of ⟨_, pe_tup p, fun W H σ e Q sr h => ka W H σ e _ sr (OLK.bind h fun ds vs e1 W1 H1 sr1 x1 r1 h1 => ?_)⟩
  obtain ⟨r, er, kq⟩ := OutK.rvo sr1 h1
  split at er
  · rename_i hz
    cases er
    exact ⟨by rw [SZ_eq, ← r1.length]; exact hz, kq.tup sr1.wm r1⟩
  · cases er
theorem pm_lst (h : PMs X Wx es fs) : PM X Wx (.List es pos) (mLst fs) := by
  obtain ⟨t, p, ka⟩ := h.run
  refine PM.of ⟨_, pe_lst p, fun W H σ e Q sr h => ka W H σ e _ sr (OLK.bind h fun ds vs e1 W1 H1 sr1 x1 r1 h1 => ?_)⟩
  obtain ⟨r, er, kq⟩ := OutK.rvo sr1 h1
  split at er
  · rename_i hz
    cases er
    exact ⟨by rw [SZ_eq, ← r1.length]; exact hz, kq.fr sr1.wm r1⟩
  · cases er
@[simp] def mCa (g : List D → Option RV) (fs : FL) : FM := fun e => (fs e).bind fun ds e1 => rvO (g ds) e1
theorem pm_callB {g : List D → Option RV} {id : String} {x : Str} {p : Pos} (hc : Ca X (.builtin id) g) (hm : X.mg x = none) (ha : PMs X Wx (a :: es) fs) (hg : Gl X x := by rfl) (hv : bootBuiltins x = some (.builtin id) := by decide +kernel) (hn : x ≠ "__name__" := by decide) (hdb : (x == ("__debug__" : Str)) = false := by decide)
    (he : starEach (a :: es) X.env = (false, eval a X.env) :: starEach es X.env := by rfl) (hpl : (backTo pos (starEach es X.env)).any (·.1) = false := by rfl) : PM X Wx (.Call (.Name x p) (a :: es) [] pos) (mCa g fs) := by
  obtain ⟨rl, h1, h2⟩ := hc.run
  obtain ⟨t, pa, ka⟩ := ha.run
  refine PM.of ⟨_, pe_callB h1 hg hm hv pa hn hdb he hpl, fun W H σ e Q sr h => ka W H σ e _ sr (OLK.bind h fun ds vs e1 W1 H1 sr1 x1 r1 h3 => ?_)⟩
  obtain ⟨r, er, kq⟩ := OutK.rvo sr1 h3
  exact h2 W1 H1 vs ds r Q sr1.wm r1.vzL er kq
theorem pm_callT {g : List D → Option RV} {T : String} {x : Str} {p : Pos} (hc : Ca X (.type T) g) (hm : X.mg x = none) (ha : PMs X Wx (a :: es) fs) (hg : Gl X x := by rfl) (hv : bootBuiltins x = some (.type T) := by decide +kernel) (hn : x ≠ "__name__" := by decide) (hdb : (x == ("__debug__" : Str)) = false := by decide)
    (he : starEach (a :: es) X.env = (false, eval a X.env) :: starEach es X.env := by rfl) (hpl : (backTo pos (starEach es X.env)).any (·.1) = false := by rfl) : PM X Wx (.Call (.Name x p) (a :: es) [] pos) (mCa g fs) := by
  obtain ⟨rl, h1, h2⟩ := hc.run
  obtain ⟨t, pa, ka⟩ := ha.run
  refine PM.of ⟨_, pe_callTy h1 hg hm hv pa hn hdb he hpl, fun W H σ e Q sr h => ka W H σ e _ sr (OLK.bind h fun ds vs e1 W1 H1 sr1 x1 r1 h3 => ?_)⟩
  obtain ⟨r, er, kq⟩ := OutK.rvo sr1 h3
  exact h2 W1 H1 vs ds r Q sr1.wm r1.vzL er kq
end
end DL

set_option maxHeartbeats 2000000
namespace DL
open PySem PySem.Spec PyProof.Rows L2

/-! ## a def's mirror, out of its body's -/
@[simp] def outs : List S → En → Option En
  | [], _ => some []
  | s :: ss, e => match e with
    | [] => none
    | o :: r => (if s.own = true then (match o with
      | some (.lst xs) => some (S.lst xs)
      | _ => none) else some s).bind fun t => (outs ss r).map fun q => some t :: q
@[simp] def lkOk (lk : List Nat) : Nat → List S → Bool
  | _, [] => true
  | i, s :: ss => (!s.own || lk.contains i) && lkOk lk (i + 1) ss
@[simp] def Out.back (ss : List S) (s : S) (e : En) : Out := match outs ss e with
  | some e' => .ok s e'
  | none => .stuck
@[simp] def Out.backX (ss : List S) (x : XD) (e : En) : Out := match outs ss e with
  | some e' => .ex x e'
  | none => .stuck
@[simp] def fin (ss : List S) : Fl → Out
  | .nx e => Out.back ss (.d .non) e
  | .rt s e => Out.back ss s e
  | .ex x e => Out.backX ss x e
  | _ => .stuck
@[simp] def enter (n : Nat) (ss : List S) : En := ss.map some ++ List.replicate (n - ss.length) none
@[simp] def fnF (n : Nat) (lk : List Nat) (fb : FS) : List S → Out := fun ss => if lkOk lk 0 ss = true then fin ss (fb (enter n ss)) else .stuck
theorem lkOk_at {lk : List Nat} : ∀ {ss : List S} {k i : Nat} {s : S}, lkOk lk k ss = true → ss[i]? = some s → s.own = true → k + i ∈ lk
  | [], _, _, _, _, h, _ => by simp at h
  | t :: ss, k, 0, s, q, h, o => by
    obtain ⟨q1, _⟩ := Bool.and_eq_true_iff.mp (show ((!t.own || lk.contains k) && lkOk lk (k + 1) ss) = true from q)
    simp at h
    subst h
    rw [o] at q1
    simpa using q1
  | t :: ss, k, i + 1, s, q, h, o => by
    obtain ⟨_, q2⟩ := Bool.and_eq_true_iff.mp (show ((!t.own || lk.contains k) && lkOk lk (k + 1) ss) = true from q)
    have := lkOk_at (i := i) q2 (by simpa using h) o
    rw [show k + (i + 1) = k + 1 + i from by omega]
    exact this
theorem outs_len : ∀ {ss : List S} {e o : En}, outs ss e = some o → o.length = ss.length
  | [], _, _, h => by cases h; rfl
  | s :: ss, [], _, h => by cases h
  | s :: ss, t :: r, o, h => by
    obtain ⟨u, _, h⟩ := Option.bind_eq_some_iff.mp h
    obtain ⟨q, h1, h2⟩ := Option.map_eq_some_iff.mp h
    rw [← h2, List.length_cons, List.length_cons, outs_len h1]
theorem outs_at : ∀ {ss : List S} {e o : En} {i : Nat} {s : S}, outs ss e = some o → ss[i]? = some s → (s.own = false ∧ o[i]? = some (some s)) ∨ (s.own = true ∧ ∃ xs, o[i]? = some (some (.lst xs)) ∧ e[i]? = some (some (.lst xs)))
  | [], _, _, _, _, _, h => by simp at h
  | s :: ss, [], _, _, _, h, _ => by cases h
  | s :: ss, t :: r, o, 0, z, h, q => by
    obtain ⟨u, h0, h⟩ := Option.bind_eq_some_iff.mp h
    obtain ⟨p, h1, h2⟩ := Option.map_eq_some_iff.mp h
    simp at q
    subst q h2
    cases hs : s.own with
    | false =>
      rw [hs] at h0
      cases h0
      exact .inl ⟨rfl, rfl⟩
    | true =>
      rw [hs, if_pos rfl] at h0
      split at h0
      · cases h0
        exact .inr ⟨rfl, _, rfl, rfl⟩
      · cases h0
  | s :: ss, t :: r, o, i + 1, z, h, q => by
    obtain ⟨u, h0, h⟩ := Option.bind_eq_some_iff.mp h
    obtain ⟨p, h1, h2⟩ := Option.map_eq_some_iff.mp h
    subst h2
    exact outs_at (i := i) h1 (by simpa using q)
theorem own_lst {s : S} (h : s.own = true) : ∃ xs, s = .lst xs := by
  cases s with
  | d x => cases h
  | lst xs => exact ⟨xs, rfl⟩
section
variable {W W' : List Addr} {K : PySem.W.Frag} {H H' : Hp} {σ' : St} {e' o : En} {vs : List V} {ss : List S} {n m : Nat} {lk : List Nat}
theorem get_map {α β : Type} {f : α → β} {l : List α} {i : Nat} {y : β} (h : (l.map f)[i]? = some y) : ∃ x, l[i]? = some x ∧ f x = y := by
  rw [List.getElem?_map] at h
  exact Option.map_eq_some_iff.mp h
theorem ext_at {α : Type} {l : List (Option α)} {k i : Nat} {x : α} (h : (l ++ List.replicate k none)[i]? = some (some x)) : l[i]? = some (some x) := by
  by_cases hi : i < l.length
  · rw [List.getElem?_append_left hi] at h
    exact h
  · rw [List.getElem?_append_right (by omega), List.getElem?_replicate] at h
    split at h <;> cases h
theorem ext_to {α : Type} {l : List (Option α)} {k i : Nat} {x : Option α} (h : l[i]? = some x) : (l ++ List.replicate k none)[i]? = some x := by
  rw [List.getElem?_append_left (List.getElem?_eq_some_iff.mp h).1]
  exact h
theorem Ow.ext {σ : St} {e : En} {k : Nat} {a : Addr} (o : Ow (σ ++ List.replicate k none) (e ++ List.replicate k none) a) : Ow σ e a := by
  obtain ⟨i, s, h1, h2, h3⟩ := o
  exact ⟨i, s, ext_at h1, h2, ext_at h3⟩
theorem SR.ext {σ : St} {e : En} (r : SR W K H σ e) (k : Nat) : SR W K H (σ ++ List.replicate k none) (e ++ List.replicate k none) where
  wm := r.wm
  len := by rw [List.length_append, List.length_append, r.len, List.length_replicate, List.length_replicate]
  sl := fun i s h => by
    obtain ⟨v, h1, h2⟩ := r.sl i s (ext_at h)
    exact ⟨v, ext_to h1, h2⟩
  one := fun i j s t a h1 h2 o1 o2 h3 h4 => r.one i j s t a (ext_at h1) (ext_at h2) o1 o2 (ext_at h3) (ext_at h4)
/-- behind the body: the parameters' frame -/
theorem outs_ok (r0 : SR W K H (vs.map some) (ss.map some)) (hk : lkOk lk 0 ss = true) (ho : outs ss e' = some o) (sr : SR W' K H' σ' e') (x : EX W H (vs.map some ++ List.replicate n none) (ss.map some ++ List.replicate n none) W' H' σ' e')
    (hl : ∀ i ∈ lk, σ'[i]? = (vs.map some ++ List.replicate n none)[i]?) :
    SR W' K H' (vs.map some) o ∧ EX W H (vs.map some) (ss.map some) W' H' (vs.map some) o ∧ (∀ a, Ow (vs.map some) o a → Ow σ' e' a) ∧ ∀ a, Ow (vs.map some ++ List.replicate n none) (ss.map some ++ List.replicate n none) a → Ow (vs.map some) o a := by
  have hlen : vs.length = ss.length := by have := r0.len; rw [List.length_map, List.length_map] at this; exact this.symm
  have at_ : ∀ {i : Nat} {t : S}, o[i]? = some (some t) → ∃ s v, ss[i]? = some s ∧ vs[i]? = some v ∧ ((s.own = false ∧ t = s) ∨ (s.own = true ∧ e'[i]? = some (some t) ∧ t.own = true ∧ σ'[i]? = some (some v))) := by
    intro i t h
    have hi : i < ss.length := by rw [← outs_len ho]; exact (List.getElem?_eq_some_iff.mp h).1
    obtain ⟨s, hs⟩ : ∃ s, ss[i]? = some s := ⟨ss[i], List.getElem?_eq_getElem hi⟩
    obtain ⟨v, hv⟩ : ∃ v, vs[i]? = some v := ⟨vs[i]'(by omega), List.getElem?_eq_getElem (by omega)⟩
    refine ⟨s, v, hs, hv, ?_⟩
    rcases outs_at ho hs with ⟨n1, h1⟩ | ⟨n1, xs, h1, h2⟩
    · rw [h] at h1
      cases h1
      exact .inl ⟨n1, rfl⟩
    · rw [h] at h1
      cases h1
      refine .inr ⟨n1, h2, rfl, ?_⟩
      have q := lkOk_at hk hs n1
      rw [Nat.zero_add] at q
      rw [hl i q, ext_to (by rw [List.getElem?_map, hv]; rfl)]
  have ow1 : ∀ a, Ow (vs.map some) o a → Ow σ' e' a := by
    rintro a ⟨i, t, h1, h2, h3⟩
    obtain ⟨s, v, hs, hv, q⟩ := at_ h1
    rw [List.getElem?_map, hv] at h3
    cases h3
    rcases q with ⟨n1, rfl⟩ | ⟨_, q1, _, q3⟩
    · rw [n1] at h2; cases h2
    · exact ⟨i, t, q1, h2, q3⟩
  have ow2 : ∀ a, Ow (vs.map some ++ List.replicate n none) (ss.map some ++ List.replicate n none) a → Ow (vs.map some) o a := by
    intro a z
    obtain ⟨i, s, h1, h2, h3⟩ := z.ext
    obtain ⟨s', hs, e1⟩ := get_map h1
    cases e1
    rcases outs_at ho hs with ⟨n1, _⟩ | ⟨_, xs, q1, q2⟩
    · rw [n1] at h2; cases h2
    · exact ⟨i, .lst xs, q1, rfl, h3⟩
  refine ⟨⟨sr.wm, by rw [outs_len ho, List.length_map, hlen], fun i t h => ?_, fun i j s t a h1 h2 o1 o2 h3 h4 => ?_⟩, ⟨fun a oo h nn => x.keep a oo h fun z => nn z.ext, x.frz, fun a h nn => ?_, fun a h => ?_, x.dom⟩, ow1, ow2⟩
  · obtain ⟨s, v, hs, hv, q⟩ := at_ h
    refine ⟨v, by rw [List.getElem?_map, hv]; rfl, ?_⟩
    rcases q with ⟨n1, rfl⟩ | ⟨_, q1, _, q3⟩
    · obtain ⟨v', h1, h2⟩ := r0.sl i t (by rw [List.getElem?_map, hs]; rfl)
      rw [List.getElem?_map, hv] at h1
      cases h1
      cases t with
      | d y => exact Rp.mono (x.ex (r0.ext n)) y h2
      | lst xs => cases n1
    · obtain ⟨v', h1, h2⟩ := sr.sl i t q1
      rw [q3] at h1
      cases h1
      exact h2
  · obtain ⟨s1, v1, _, hv1, q1⟩ := at_ h1
    obtain ⟨s2, v2, _, hv2, q2⟩ := at_ h2
    rw [List.getElem?_map, hv1] at h3
    rw [List.getElem?_map, hv2] at h4
    cases h3
    cases h4
    rcases q1 with ⟨n1, rfl⟩ | ⟨_, q1, _, q3⟩
    · rw [n1] at o1; cases o1
    · rcases q2 with ⟨n1, rfl⟩ | ⟨_, p1, _, p3⟩
      · rw [n1] at o2; cases o2
      · exact sr.one i j s t a q1 p1 o1 o2 q3 p3
  · obtain ⟨h1, h2⟩ := x.tmp a h fun z => nn z.ext
    exact ⟨h1, fun z => h2 (ow1 a z)⟩
  · rcases x.sub a (ow1 a h) with z | z
    · exact .inl z.ext
    · exact .inr z
end

/-! ## the promise of a def -/
structure Fd (P : Program) (w : World) (K : PySem.W.Frag) (mg : Str → Option Value) (base : Heap) (k : Nat) (f : Addr) (fd : FuncData) (ps : List Str) (F : List S → Out) : Prop where
  run : ∀ (A : Around) (outer : List Env) (s : Shared) (H : Hp) (args : Args) (us : List Value) (vs : List V) (ss : List S) (W : List Addr) (Q : VK) (E : XK), Room k A → A.guards = some [] → Env0 P w K mg base A outer s H → BindsTo s fd args (ps.zip us) → Vals vs us →
    vs.length = ps.length → SR W K H (vs.map some) (ss.map some) → OutK K mg (fun c d _ H' => E c d H') W H (vs.map some) (ss.map some) Q (F ss) → codeAny (model P w) A (.call (.ref f) args) (CR (CX P w) outer P w H s Q E) s
theorem Fd.mono {P : Program} {w : World} {K : PySem.W.Frag} {mg : Str → Option Value} {base : Heap} {k k' : Nat} {f : Addr} {fd : FuncData} {ps : List Str} {F : List S → Out} (h : Fd P w K mg base k f fd ps F) (hk : k ≤ k') : Fd P w K mg base k' f fd ps F :=
  ⟨fun A outer s H args us vs ss W Q E r => h.run A outer s H args us vs ss W Q E (r.mono hk)⟩
section
variable {P : Program} {w : World} {K : PySem.W.Frag} {mg : Str → Option Value} {base : Heap} {name qual : Str} {params : Arguments} {body : List Stmt} {scope : Scope} {dvs : List V} {kws : List (Str × V)} {f : Addr} {fd : FuncData}
/-- what the body's end is worth to the caller -/
theorem fin_ok {W : List Addr} {H : Hp} {vs : List V} {ss : List S} {n : Nat} {lk : List Nat} {Q : VK} {E : XK} (r0 : SR W K H (vs.map some) (ss.map some)) (hk : lkOk lk 0 ss = true) : ∀ {fl : Fl}, OutK K mg (fun c d _ H' => E c d H') W H (vs.map some) (ss.map some) Q (fin ss fl) →
    FlK K mg (fun c d _ H' => E c d H') lk W H (vs.map some ++ List.replicate n none) (ss.map some ++ List.replicate n none) { nx := fun _ H' => Q .non H', rt := Q } fl := by
  intro fl h
  cases fl with
  | stuck => exact h.elim
  | bk e => exact h.elim
  | ct e => exact h.elim
  | nx e =>
    intro W' H' σ' sr x hl
    have h : OutK K mg (fun c d _ H' => E c d H') W H (vs.map some) (ss.map some) Q (Out.back ss (.d .non) e) := h
    unfold Out.back at h
    cases ho : outs ss e with
    | none => rw [ho] at h; exact h.elim
    | some o =>
      rw [ho] at h
      obtain ⟨s1, x1, _, _⟩ := outs_ok r0 hk ho sr x hl
      exact h .non W' H' s1 x1 rfl fun z => nomatch z
  | rt s e =>
    intro v W' H' σ' sr x hl rv fr
    have h : OutK K mg (fun c d _ H' => E c d H') W H (vs.map some) (ss.map some) Q (Out.back ss s e) := h
    unfold Out.back at h
    cases ho : outs ss e with
    | none => rw [ho] at h; exact h.elim
    | some o =>
      rw [ho] at h
      obtain ⟨s1, x1, o1, o2⟩ := outs_ok r0 hk ho sr x hl
      refine h v W' H' s1 x1 rv fun so a ea => ?_
      obtain ⟨q1, q2⟩ := fr so a ea
      have q3 : ¬ Ow (vs.map some) o a := fun z => q1 (o1 a z)
      exact ⟨q2.elim (fun z => absurd (o2 a z) q3) id, q3⟩
  | ex y e =>
    intro c d W' H' σ' sr x hl rx
    have h : OutK K mg (fun c d _ H' => E c d H') W H (vs.map some) (ss.map some) Q (Out.backX ss y e) := h
    unfold Out.backX at h
    cases ho : outs ss e with
    | none => rw [ho] at h; exact h.elim
    | some o =>
      rw [ho] at h
      obtain ⟨s1, x1, _, _⟩ := outs_ok r0 hk ho sr x hl
      exact h c d W' H' s1 x1 rx
theorem fd_of {N ps : List Str} {k : Nat} {lk : List Nat} {fb : FS} (FD : FunD K name qual params body scope dvs kws f fd) (SC : FnScope N ps scope)
    (hb : ∀ (cdv : Value) (A : Around) (outer : List Env) (s : Shared) (H : Hp) (E : XK), Room k (A.deeper (envOfC qual scope s.heap.objs.size f cdv)) → A.guards = some [] →
      SDs (cxOf (CX P w) P w K mg base N qual scope f cdv A outer s H E) (fun c d _ H' => E c d H') lk body fb) : Fd P w K mg base (k + 1) f fd ps (fnF N.length lk fb) := by
  obtain ⟨oc, od, dV, kV, doc, pm, an, cdv, ct, osl, e, look, code, _, _⟩ := FD.ex
  refine ⟨fun A outer s H args us vs ss W Q E room gd env bind rel hlen r0 out => ?_⟩
  subst e
  have inK : K.In s.heap := env.mod.kin.keeps fun b o q => (env.bs b o q).1
  have noL : s.heap.NoLimit := env.mod.nolimit.keeps fun b o q => (env.bs b o q).1
  have kinds : ∀ y ∈ ps.zip us, scope.names.lookup y.1 = some .local ∨ (scope.names.lookup y.1 = some .cell ∧ ((cellsFrom (s.heap.objs.size + 1) scope.names []).lookup y.1).isSome = true) := by
    intro y hy
    cases SC.par y.1 (List.of_mem_zip hy).1 with
    | inl q => exact .inl q
    | inr q => exact .inr ⟨q, PySem.W.cellsFrom_some _ _ _ (.inl q)⟩
  unfold fnF at out
  split at out
  rotate_left
  · exact out.elim
  rename_i hlk
  refine codeAny_call_function (by have := room.dp; omega) (inK _ _ look) rfl SC.co SC.gen rfl (PySem.W.codeRec_of inK code) (bind _ _ _ _ ?_)
  refine wpAny_newFunctionEnv_cells SC.kind kinds fun env1 he s1 ic => ?_
  subst he
  refine ⟨noL.keeps ic.toInCall.keep, codeAny_func ?_⟩
  have B := hb cdv A outer s H E (room.deeper _) gd
  have hss : ss.length = vs.length := by have := r0.len; rw [List.length_map, List.length_map] at this; exact this
  have I0 : Inv (cxOf (CX P w) P w K mg base N qual scope f cdv A outer s H E) [] (L2.start N vs) H s1 := inv_start SC room.hd env hlen rel ic
  have pre : tS K mg (fun c d _ H' => E c d H') lk fb { nx := fun _ H' => Q .non H', rt := Q } (L2.start N vs) H := by
    refine ⟨W, enter N.length ss, ?_, ?_⟩
    · unfold L2.start enter
      rw [hss]
      exact r0.ext _
    · have := fin_ok (n := N.length - ss.length) r0 hlk out
      unfold L2.start
      rw [← hss]
      exact this
  refine wpAny_mono (B.ps.run [] s1 (L2.start N vs) H _ I0 pre) (fun fl s2 end_ => ?_) fun e s2 z => z
  cases fl with
  | next =>
    obtain ⟨σ2, H2, J, q⟩ := end_
    exact ⟨.non, H2, J.os, J.bare, J.base, J.hok, rfl, q⟩
  | ret u =>
    obtain ⟨v, σ2, H2, J, rv, q⟩ := end_
    exact ⟨v, H2, J.os, J.bare, J.base, J.hok, rv, q⟩
  | brk => exact end_.elim fun _ z => z.elim fun _ z => z.2.elim
  | cont => exact end_.elim fun _ z => z.elim fun _ z => z.2.elim
end
end DL

set_option maxHeartbeats 2000000
namespace DL
open PySem PySem.Spec PyProof.Rows L2

/-! ## calls of the text's defs -/
/-- a def that may be called by its name; F its mirror -/
structure Cal (P : Program) (w : World) (K : PySem.W.Frag) (mg : Str → Option Value) (base : Heap) (k : Nat) (d : He.DefD) (ps : List Str) (F : List S → Out) : Prop where
  ex : ∃ (f : Addr) (fd : FuncData), mg d.name = some (.ref f) ∧ PySem.W.keepIn K (.ref f) = true ∧ Fd P w K mg base k f fd ps F ∧ (∃ kV doc pm an cdv ct, fd = PySem.W.fnOf d.name d.qual d.params d.body d.scope .none kV doc pm an cdv ct) ∧ ∃ oc od osl, K.lookup f = some ⟨oc, od, .func fd, osl⟩
theorem Cal.mono {P : Program} {w : World} {K : PySem.W.Frag} {mg : Str → Option Value} {base : Heap} {k k' : Nat} {d : He.DefD} {ps : List Str} {F : List S → Out} (h : Cal P w K mg base k d ps F) (hk : k ≤ k') : Cal P w K mg base k' d ps F :=
  let ⟨f, fd, a, b, c, e⟩ := h.ex; ⟨⟨f, fd, a, b, c.mono hk, e⟩⟩
/-- how n positional values and keywords named ks come to the parameters -/
def BindsA (d : He.DefD) (ps : List Str) : Prop := ∀ (kV doc pm : Value) (an : Option Addr) (cdv ct : Value) (us : List Value), us.length = ps.length →
  bindArgs (PySem.W.fnOf d.name d.qual d.params d.body d.scope .none kV doc pm an cdv ct) ⟨us, []⟩ = pure (ps.zip us)
def BindsK (d : He.DefD) (ps ks : List Str) (g : {α : Type} → List α → List α → List α) : Prop := ∀ (kV doc pm : Value) (an : Option Addr) (cdv ct : Value) (us ws : List Value), (g us ws).length = ps.length →
  bindArgs (PySem.W.fnOf d.name d.qual d.params d.body d.scope .none kV doc pm an cdv ct) ⟨us, ks.zip ws⟩ = pure (ps.zip (g us ws))
/-- the promise at a call: E: what an exception must meet -/
def spF (K : PySem.W.Frag) (mg : Str → Option Value) (n : Nat) (F : List S → Out) (E : XK) (vs : List V) (H : Hp) (Q : VK) : Prop :=
  vs.length = n ∧ ∃ (W : List Addr) (ss : List S), SR W K H (vs.map some) (ss.map some) ∧ OutK K mg (fun c d _ H' => E c d H') W H (vs.map some) (ss.map some) Q (F ss)
section
variable {X : Cx} {Wx : WX} {k : Nat} {d : He.DefD} {ps ks : List Str} {F : List S → Out} {x : Str} {p pos : Pos} {a : Expr} {es : List Expr} {t tk : TA} {kws : List Keyword}
theorem run_fd {f : Addr} {fd : FuncData} {pins : List (Addr × Obj)} {σ : St} {H : Hp} {s : Shared} {Q : VK} {us : List Value} {vs : List V} {pq : List Value} {kq : List (Str × Value)} (FF : Fd X.prog X.w X.K X.mg X.base k f fd ps F) (hr : Room k X.A) (hgd : X.A.guards = some []) (tk : Takes X Wx)
    (hb : BindsTo s fd ⟨pq, kq⟩ (ps.zip us)) (I : Inv X pins σ H s) (r : Vals vs us) (h : spF X.K X.mg ps.length F (fun c d H' => Wx c d σ H') vs H Q) : wpAny (model X.prog X.w) X.A (call (.ref f) pq kq) (EP X pins σ Q) X.xe s := by
  obtain ⟨hl, W, ss, sr, out⟩ := h
  refine wpAny_call (codeAny_mono (FF.run X.A X.stack s H ⟨pq, kq⟩ us vs ss W Q (fun c d H' => Wx c d σ H') hr hgd I.env0 hb r hl sr out) fun rs s' hq => ?_)
  cases rs with
  | error e => exact tk e s' (XE.of_call I (fun cls d H' z => z) hq)
  | ok fl =>
    cases fl with
    | ret u => exact I.after hq
    | next => exact False.elim hq
    | brk => exact False.elim hq
    | cont => exact False.elim hq
def tFd (K : PySem.W.Frag) (mg : Str → Option Value) (n : Nat) (F : List S → Out) (Wx : WX) (t : TA) : TE := fun σ H Q => t σ H fun vs H1 => spF K mg n F (fun c d H' => Wx c d σ H') vs H1 Q
theorem pe_fd (c : Cal X.prog X.w X.K X.mg X.base k d ps F) (hx : d.name = x) (hb : BindsA d ps) (hr : Room k X.A) (hgd : X.A.guards = some []) (tk : Takes X Wx) (ha : PA X (a :: es) t) (hg : Gl X x)
    (hdb : (x == ("__debug__" : Str)) = false := by decide) (he : starEach (a :: es) X.env = (false, eval a X.env) :: starEach es X.env := by rfl) (hpl : (backTo pos (starEach es X.env)).any (·.1) = false := by rfl) :
    PE X (.Call (.Name x p) (a :: es) [] pos) (tFd X.K X.mg ps.length F Wx t) := by
  obtain ⟨f, fd, hm, hk, FF, ⟨kV, doc, pm, an, cdv, ct, efd⟩, _⟩ := c.ex
  rw [hx] at hm
  refine ⟨fun pins s σ H Q I h => wpAny_Call_Name_kw (ld_glob I hg hm ?_ hdb)⟩
  refine PySem.W.callWith_K (h₀ := X.base) I.ok.mod.kin hk (thn (ha.run pos pins s σ H _ I h) fun us s1 ⟨vs, H1, I1, r, q⟩ => ⟨I1.kIn, ?_⟩) he hpl
  have hl : us.length = ps.length := by rw [← r.length]; exact q.1
  exact run_fd FF hr hgd tk (.of_eq (by rw [efd]; exact hb kV doc pm an cdv ct us hl)) I1 r q
theorem pe_fd0 (c : Cal X.prog X.w X.K X.mg X.base k d ps F) (hx : d.name = x) (hb : BindsA d ps) (hr : Room k X.A) (hgd : X.A.guards = some []) (tk : Takes X Wx) (hg : Gl X x)
    (hdb : (x == ("__debug__" : Str)) = false := by decide) : PE X (.Call (.Name x p) [] [] pos) (tFd X.K X.mg ps.length F Wx tNil) := by
  obtain ⟨f, fd, hm, hk, FF, ⟨kV, doc, pm, an, cdv, ct, efd⟩, _⟩ := c.ex
  rw [hx] at hm
  refine ⟨fun pins s σ H Q I h => wpAny_Call_Name_kw (ld_glob I hg hm ?_ hdb)⟩
  have q : spF X.K X.mg ps.length F (fun c d H' => Wx c d σ H') [] H Q := h
  exact PySem.W.callWith_K0 I.kIn hk (run_fd (us := []) FF hr hgd tk (.of_eq (by rw [efd]; exact hb kV doc pm an cdv ct [] q.1)) I .nil q)
/-- only keywords -/
def tFdK (K : PySem.W.Frag) (mg : Str → Option Value) (n : Nat) (F : List S → Out) (Wx : WX) (g : {α : Type} → List α → List α → List α) (t tk : TA) : TE := fun σ H Q => t σ H fun vs H1 => tk σ H1 fun zs H2 => spF K mg n F (fun c d H' => Wx c d σ H') (g vs zs) H2 Q
structure GVals (g : {α : Type} → List α → List α → List α) : Prop where
  rel : ∀ {vs : List V} {us : List Value} {zs : List V} {ws : List Value}, Vals vs us → Vals zs ws → Vals (g vs zs) (g us ws)
theorem pe_fdK0 {g : {α : Type} → List α → List α → List α} (c : Cal X.prog X.w X.K X.mg X.base k d ps F) (hx : d.name = x) (hb : BindsK d ps ks g) (gv : GVals g) (hr : Room k X.A) (hgd : X.A.guards = some []) (tk : Takes X Wx) {tw : TA} (hw : PK X kws tw) (hg : Gl X x)
    (hall : (backToKw pos (keywordEach kws X.env)).all (·.1.isSome) = true := by rfl) (hks : (backToKw pos (keywordEach kws X.env)).filterMap (·.1) = ks := by rfl)
    (hdb : (x == ("__debug__" : Str)) = false := by decide) (hpl : ((backTo pos (starEach [] X.env)).any (·.1) || (backToKw pos (keywordEach kws X.env)).any (·.1.isNone)) = false := by rfl) :
    PE X (.Call (.Name x p) [] kws pos) (tFdK X.K X.mg ps.length F Wx g tNil tw) := by
  obtain ⟨f, fd, hm, hk, FF, ⟨kV, doc, pm, an, cdv, ct, efd⟩, _⟩ := c.ex
  rw [hx] at hm
  refine ⟨fun pins s σ H Q I h => wpAny_Call_Name_kw (ld_glob I hg hm ?_ hdb)⟩
  have h : tw σ H fun zs H2 => spF X.K X.mg ps.length F (fun c d H' => Wx c d σ H') (g [] zs) H2 Q := h
  refine PySem.W.callWith_KW0 (h₀ := X.base) I.ok.mod.kin hk hall (thn (hw.run pos pins s σ H _ I h) fun ws s2 ⟨zs, H2, I2, rz, q⟩ => ⟨I2.kIn, ?_⟩) hpl
  rw [hks]
  have r2 := gv.rel (vs := []) (us := []) .nil rz
  exact run_fd FF hr hgd tk (.of_eq (by rw [efd]; exact hb kV doc pm an cdv ct [] ws (by rw [← r2.length]; exact q.1))) I2 r2 q
theorem pe_fdK {g : {α : Type} → List α → List α → List α} (c : Cal X.prog X.w X.K X.mg X.base k d ps F) (hx : d.name = x) (hb : BindsK d ps ks g) (gv : GVals g) (hr : Room k X.A) (hgd : X.A.guards = some []) (tk : Takes X Wx) (ha : PA X (a :: es) t) {tw : TA} (hw : PK X kws tw) (hg : Gl X x)
    (hall : (backToKw pos (keywordEach kws X.env)).all (·.1.isSome) = true := by rfl) (hks : (backToKw pos (keywordEach kws X.env)).filterMap (·.1) = ks := by rfl)
    (hdb : (x == ("__debug__" : Str)) = false := by decide) (he : starEach (a :: es) X.env = (false, eval a X.env) :: starEach es X.env := by rfl)
    (hpl : ((backTo pos (starEach (a :: es) X.env)).any (·.1) || (backToKw pos (keywordEach kws X.env)).any (·.1.isNone)) = false := by rfl) :
    PE X (.Call (.Name x p) (a :: es) kws pos) (tFdK X.K X.mg ps.length F Wx g t tw) := by
  obtain ⟨f, fd, hm, hk, FF, ⟨kV, doc, pm, an, cdv, ct, efd⟩, _⟩ := c.ex
  rw [hx] at hm
  refine ⟨fun pins s σ H Q I h => wpAny_Call_Name_kw (ld_glob I hg hm ?_ hdb)⟩
  refine PySem.W.callWith_KW (h₀ := X.base) I.ok.mod.kin hk hall (thn (ha.run pos pins s σ H _ I h) fun us s1 ⟨vs, H1, I1, r, q⟩ => ?_) hpl he
  refine thn (hw.run pos pins s1 σ H1 _ I1 q) fun ws s2 ⟨zs, H2, I2, rz, q⟩ => ⟨I2.kIn, ?_⟩
  rw [hks]
  have r2 := gv.rel r rz
  exact run_fd FF hr hgd tk (.of_eq (by rw [efd]; exact hb kV doc pm an cdv ct us ws (by rw [← r2.length]; exact q.1))) I2 r2 q
theorem takes_no : Takes X (fun _ _ _ _ => False) := fun u s' ⟨_, _, _, _, _, _, _, _, _, _, _, _, _, _, _, _, z⟩ => z.elim
end

/-! ### calls that change nothing and let nothing out -/
mutual
def D.flat : D → Bool
  | .non => true
  | .bl _ => true
  | .int _ => true
  | .str _ => true
  | .tup xs => flatL xs
  | .lst _ => false
  | .ro xs => flatL xs
  | .dic _ _ => false
def flatL : List D → Bool
  | [] => true
  | d :: ds => d.flat && flatL ds
end
mutual
theorem Rp.flat {W W' : List Addr} {K : PySem.W.Frag} {H : Hp} : ∀ (x : D) {v : V}, x.flat = true → Rp W K H x v → Rp W' K H x v
  | .non, _, _, h => h
  | .bl _, _, _, h => h
  | .int _, _, _, h => h
  | .str _, _, _, h => h
  | .tup xs, _, o, ⟨a, vs, e, h1, h2⟩ => ⟨a, vs, e, h1, RpL.flat xs o h2⟩
  | .ro xs, _, o, ⟨a, vs, e, h1, h2⟩ => ⟨a, vs, e, h1, RpL.flat xs o h2⟩
theorem RpL.flat {W W' : List Addr} {K : PySem.W.Frag} {H : Hp} : ∀ (xs : List D) {vs : List V}, flatL xs = true → RpL W K H xs vs → RpL W' K H xs vs
  | [], _, _, h => h
  | d :: ds, _, o, ⟨v, us, e, h1, h2⟩ => by
    obtain ⟨o1, o2⟩ := Bool.and_eq_true_iff.mp (show (d.flat && flatL ds) = true from o)
    exact ⟨v, us, e, Rp.flat d o1 h1, RpL.flat ds o2 h2⟩
end
@[simp] def RV.lent : RV → Bool
  | .ow _ => true
  | _ => false
def S.flat : S → Bool
  | .d x => x.flat
  | .lst xs => flatL xs
@[simp] def S.rv : S → RV
  | .d x => .fz x
  | .lst xs => .fr xs
@[simp] def callP (F : List S → Out) (rs : List RV) : Option RV := match F (rs.map fun r => .d r.view) with
  | .ok s _ => if (rs.all fun r => !r.lent) = true ∨ s.flat = true then some s.rv else none
  | _ => none
@[simp] def pFd (F : List S → Out) (fs : FA) : FP := fun e => (fs e).bind (callP F)
/-- the lists among the arguments that the caller holds -/
def held : List RV → List V → List Addr
  | r :: rs, v :: vs => (match r, v with
    | .fz _, _ => held rs vs
    | _, .ref a => a :: held rs vs
    | _, _ => held rs vs)
  | _, _ => []
section
variable {W W1 W0 : List Addr} {K : PySem.W.Frag} {mg : Str → Option Value} {H H1 : Hp} {F : List S → Out}
theorem held_in : ∀ {rs : List RV} {vs : List V}, RVs W1 K H H1 rs vs → (rs.all fun r => !r.lent) = true → ∀ a ∈ held rs vs, H a = none
  | [], vs, _, _, a, ha => by
    unfold held at ha
    cases ha
  | r :: rs, _, ⟨v, us, e, h1, h2⟩, hl, a, ha => by
    subst e
    obtain ⟨l1, l2⟩ := Bool.and_eq_true_iff.mp (show ((!r.lent) && rs.all fun r => !r.lent) = true from hl)
    cases r with
    | fz x => exact held_in h2 l2 a ha
    | ow xs => cases l1
    | fr xs =>
      obtain ⟨b, ws, rfl, n, _⟩ := h1
      rcases List.mem_cons.mp (show a ∈ b :: held rs us from ha) with rfl | ha
      · exact n
      · exact held_in h2 l2 a ha
theorem frozen_args {W0 : List Addr} (sb : ∀ a ∈ W0, a ∈ W1) (wm : WM W1 H1) : ∀ {rs : List RV} {vs : List V}, RVs W1 K H H1 rs vs → (∀ a ∈ held rs vs, a ∉ W0) → RpL W0 K H1 (rs.map RV.view) vs
  | [], _, h, _ => h
  | r :: rs, _, ⟨v, us, e, h1, h2⟩, hn => by
    subst e
    cases r with
    | fz x => exact ⟨v, us, rfl, Rp.weak sb (fun a h => wm a (sb a h)) h1 wm, frozen_args sb wm h2 hn⟩
    | fr xs =>
      obtain ⟨b, ws, rfl, n, m, hb, q⟩ := h1
      exact ⟨_, us, rfl, ⟨b, ws, rfl, ⟨hb, hn b List.mem_cons_self⟩, RpL.weak sb wm q⟩, frozen_args sb wm h2 fun a ha => hn a (List.mem_cons_of_mem _ ha)⟩
    | ow xs =>
      obtain ⟨b, ws, rfl, m, hb, q⟩ := h1
      exact ⟨_, us, rfl, ⟨b, ws, rfl, ⟨hb, hn b List.mem_cons_self⟩, RpL.weak sb wm q⟩, frozen_args sb wm h2 fun a ha => hn a (List.mem_cons_of_mem _ ha)⟩
theorem no_own {σ : St} {ds : List D} {a : Addr} : ¬ Ow σ ((ds.map S.d).map some) a := by
  rintro ⟨i, s, h1, h2, _⟩
  obtain ⟨t, h3, e⟩ := get_map h1
  cases e
  obtain ⟨x, _, e⟩ := get_map h3
  rw [← e] at h2
  cases h2
theorem frame_of (wm : WM W H) {ds : List D} {vs : List V} (r : RpL W K H ds vs) : SR W K H (vs.map some) ((ds.map S.d).map some) where
  wm := wm
  len := by rw [List.length_map, List.length_map, List.length_map, r.length]
  sl := fun i s h => by
    obtain ⟨t, h3, e⟩ := get_map h
    cases e
    obtain ⟨x, h4, e⟩ := get_map h3
    subst e
    obtain ⟨v, h5, q⟩ := r.get h4
    exact ⟨v, by rw [List.getElem?_map, h5]; rfl, q⟩
  one := fun i j s t a h1 _ o1 _ h3 _ => absurd ⟨i, s, h1, o1, h3⟩ no_own
theorem callP_ok {rs : List RV} {vs : List V} {r : RV} {Q : VK} {n : Nat} {E : XK} (wm : WM W H) (g1 : Grow W H W1 H1) (k1 : RVs W1 K H H1 rs vs) (hf : callP F rs = some r) (k : KQ W K H r Q) (hn : vs.length = n) : spF K mg n F E vs H1 Q := by
  refine ⟨hn, W1.filter (fun a => decide (a ∉ held rs vs)), (rs.map RV.view).map S.d, ?_⟩
  have sb : ∀ a ∈ W1.filter (fun a => decide (a ∉ held rs vs)), a ∈ W1 := fun a h => (List.mem_filter.mp h).1
  have nh : ∀ a ∈ held rs vs, a ∉ W1.filter (fun a => decide (a ∉ held rs vs)) := fun a h z => by
    have := (List.mem_filter.mp z).2
    simp at this
    exact this h
  have fa := frozen_args sb g1.wm k1 nh
  have wm0 : WM (W1.filter fun a => decide (a ∉ held rs vs)) H1 := fun a h => g1.wm a (sb a h)
  refine ⟨frame_of wm0 fa, ?_⟩
  have em : (rs.map fun r => S.d r.view) = (rs.map RV.view).map S.d := by rw [List.map_map]; rfl
  unfold callP at hf
  rw [em] at hf
  generalize F ((rs.map RV.view).map S.d) = o at hf ⊢
  cases o with
  | stuck => cases hf
  | ex x e => cases hf
  | ok s e' =>
    have hf : (if (rs.all fun r => !r.lent) = true ∨ s.flat = true then some s.rv else none) = some r := hf
    split at hf
    rotate_left
    · cases hf
    rename_i hc
    cases hf
    intro v W' H' sr' x rs' fr'
    have kp : ∀ a o, H a = some o → H' a = some o := fun a o h => x.keep a o (g1.keep a o h) no_own
    have sub : (rs.all fun r => !r.lent) = true → ∀ a ∈ W, a ∈ W' := fun hl a ha => by
      refine (x.tmp a (List.mem_filter.mpr ⟨g1.sub a ha, ?_⟩) no_own).1
      simp
      exact fun z => isSome_of_mut (wm a ha) (held_in k1 hl a z)
    have g : Grow W H W H' := .of wm kp
    cases s with
    | d y =>
      refine k v W H' g ?_
      show Rp W K H' y v
      rcases hc with hl | hfl
      · exact Rp.weak (sub hl) g.wm rs' sr'.wm
      · exact Rp.flat y hfl rs'
    | lst xs =>
      obtain ⟨a, us, rfl, q1, q2, q3⟩ := rs'
      have na := g1.fresh (fr' rfl a rfl).1
      have g2 : Grow W H (a :: W) H' := ⟨kp, fun b h => List.mem_cons_of_mem _ h, fun b h => by
        rcases List.mem_cons.mp h with rfl | h
        · exact .inr na
        · exact .inl h, fun b h => by
        rcases List.mem_cons.mp h with rfl | h
        · rw [q2]; trivial
        · exact g.wm b h⟩
      refine k _ (a :: W) H' g2 ⟨a, us, rfl, na, List.mem_cons_self, q2, ?_⟩
      rcases hc with hl | hfl
      · refine RpL.weak (fun b h => ?_) sr'.wm q3
        rcases List.mem_cons.mp h with rfl | h
        · exact q1
        · exact sub hl b h
      · exact RpL.flat xs hfl q3
end
section
variable {X : Cx} {k : Nat} {d : He.DefD} {ps ks : List Str} {F : List S → Out} {x : Str} {p pos : Pos} {a : Expr} {es : List Expr} {fs fk : FA} {kws : List Keyword}
theorem RVs.len {W : List Addr} {K : PySem.W.Frag} {H H' : Hp} : ∀ {rs : List RV} {vs : List V}, RVs W K H H' rs vs → rs.length = vs.length
  | [], vs, h => by cases (show vs = [] from h); rfl
  | r :: rs, _, ⟨v, us, e, _, h⟩ => by subst e; rw [List.length_cons, List.length_cons, RVs.len h]
theorem pp_fd (c : Cal X.prog X.w X.K X.mg X.base k d ps F) (hx : d.name = x) (hb : BindsA d ps) (hr : Room k X.A) (hgd : X.A.guards = some []) (ha : PPs X (a :: es) fs) (hlen : (a :: es).length = ps.length := by rfl) (hg : Gl X x := by rfl)
    (hdb : (x == ("__debug__" : Str)) = false := by decide) (he : starEach (a :: es) X.env = (false, eval a X.env) :: starEach es X.env := by rfl) (hpl : (backTo pos (starEach es X.env)).any (·.1) = false := by rfl)
    (hfl : ∀ e rs, fs e = some rs → rs.length = ps.length) : PP X (.Call (.Name x p) (a :: es) [] pos) (pFd F fs) := by
  obtain ⟨t, pa, ka⟩ := ha.run
  refine PP.of ⟨_, pe_fd c hx hb hr hgd takes_no pa hg hdb he hpl, fun W H σ e Q r sr hf kq => ?_⟩
  obtain ⟨rs, e1, hf⟩ := Option.bind_eq_some_iff.mp hf
  exact ka W H σ e _ rs sr e1 fun vs W1 H1 g1 k1 => callP_ok sr.wm g1 k1 hf kq (by rw [← k1.len]; exact hfl e rs e1)
theorem pp_fd0 (c : Cal X.prog X.w X.K X.mg X.base k d [] F) (hx : d.name = x) (hb : BindsA d []) (hr : Room k X.A) (hgd : X.A.guards = some []) (hg : Gl X x := by rfl)
    (hdb : (x == ("__debug__" : Str)) = false := by decide) : PP X (.Call (.Name x p) [] [] pos) (pFd F aNil) := by
  refine PP.of ⟨_, pe_fd0 c hx hb hr hgd takes_no hg hdb, fun W H σ e Q r sr hf kq => ?_⟩
  exact callP_ok sr.wm (.refl sr.wm) (rs := []) (vs := []) rfl hf kq rfl
theorem aNil_len : ∀ e rs, aNil e = some rs → rs.length = 0 := fun e rs h => by cases h; rfl
theorem aCons_len {fa : FP} {fs : FA} {n : Nat} (h : ∀ e rs, fs e = some rs → rs.length = n) : ∀ e rs, aCons fa fs e = some rs → rs.length = n + 1 := fun e rs q => by
  obtain ⟨r, _, q⟩ := Option.bind_eq_some_iff.mp q
  obtain ⟨z, e1, q⟩ := Option.map_eq_some_iff.mp q
  subst q
  rw [List.length_cons, h e z e1]
/-- keywords -/
structure PKs (X : Cx) (kws : List Keyword) (f : FA) : Prop where
  pk : PK X kws (tA X.K f)
theorem kk_nil : PKs X [] aNil := ⟨⟨fun pos pins s σ H Q I ⟨W, e, rs, sr, hf, k⟩ => by cases hf; exact pk_nil.run pos pins s σ H Q I (k [] W H (.refl sr.wm) rfl)⟩⟩
theorem kk_cons {nm : Option Str} {v : Expr} {kpos : Pos} {fa : FP} (ha : PP X v fa) (hr : PKs X kws fk) : PKs X (⟨nm, v, kpos⟩ :: kws) (aCons fa fk) := by
  obtain ⟨t, p, ka⟩ := ha.run
  refine ⟨⟨fun pos pins s σ H Q I ⟨W, e, rs, sr, hf, k⟩ => (pk_cons p hr.pk).run pos pins s σ H Q I ?_⟩⟩
  obtain ⟨r1, e1, hf⟩ := Option.bind_eq_some_iff.mp hf
  obtain ⟨r2, e2, hf⟩ := Option.map_eq_some_iff.mp hf
  subst hf
  exact ka W H σ e _ r1 sr e1 fun v W1 H1 g1 k1 => ⟨W1, e, r2, g1.sr sr, e2, fun vs W' H' g2 k2 => k _ W' H' (g1.trans g2) ⟨v, vs, rfl, k1.grow g2 g1.wm, k2.back fun a h => g1.fresh h⟩⟩
structure GRel (g : {α : Type} → List α → List α → List α) : Prop where
  rv : ∀ {W : List Addr} {K : PySem.W.Frag} {H H' : Hp} {rs qs : List RV} {vs zs : List V}, RVs W K H H' rs vs → RVs W K H H' qs zs → RVs W K H H' (g rs qs) (g vs zs)
@[simp] def pFdK (F : List S → Out) (g : {α : Type} → List α → List α → List α) (n : Nat) (fs fk : FA) : FP := fun e => (fs e).bind fun rs => (fk e).bind fun qs => if (g rs qs).length = n then callP F (g rs qs) else none
theorem pp_fdK0 {g : {α : Type} → List α → List α → List α} (c : Cal X.prog X.w X.K X.mg X.base k d ps F) (hx : d.name = x) (hb : BindsK d ps ks g) (gv : GVals g) (gr : GRel g) (hr : Room k X.A) (hgd : X.A.guards = some []) (hw : PKs X kws fk) (hg : Gl X x := by rfl)
    (hall : (backToKw pos (keywordEach kws X.env)).all (·.1.isSome) = true := by rfl) (hks : (backToKw pos (keywordEach kws X.env)).filterMap (·.1) = ks := by rfl)
    (hdb : (x == ("__debug__" : Str)) = false := by decide) (hpl : ((backTo pos (starEach [] X.env)).any (·.1) || (backToKw pos (keywordEach kws X.env)).any (·.1.isNone)) = false := by rfl) :
    PP X (.Call (.Name x p) [] kws pos) (pFdK F g ps.length aNil fk) := by
  refine PP.of ⟨_, pe_fdK0 c hx hb gv hr hgd takes_no hw.pk hg hall hks hdb hpl, fun W H σ e Q r sr hf kq => ?_⟩
  obtain ⟨rs, e1, hf⟩ := Option.bind_eq_some_iff.mp hf
  cases e1
  obtain ⟨qs, e2, hf⟩ := Option.bind_eq_some_iff.mp hf
  split at hf
  rotate_left
  · cases hf
  rename_i hl
  show tA X.K fk σ H _
  refine ⟨W, e, qs, sr, e2, fun zs W1 H1 g1 k1 => ?_⟩
  have k2 := gr.rv (rs := []) (vs := []) (W := W1) (K := X.K) (H := H) (H' := H1) rfl k1
  exact callP_ok sr.wm g1 k2 hf kq (by rw [← k2.len]; exact hl)
theorem pp_fdK {g : {α : Type} → List α → List α → List α} (c : Cal X.prog X.w X.K X.mg X.base k d ps F) (hx : d.name = x) (hb : BindsK d ps ks g) (gv : GVals g) (gr : GRel g) (hr : Room k X.A) (hgd : X.A.guards = some []) (ha : PPs X (a :: es) fs) (hw : PKs X kws fk) (hg : Gl X x := by rfl)
    (hall : (backToKw pos (keywordEach kws X.env)).all (·.1.isSome) = true := by rfl) (hks : (backToKw pos (keywordEach kws X.env)).filterMap (·.1) = ks := by rfl)
    (hdb : (x == ("__debug__" : Str)) = false := by decide) (he : starEach (a :: es) X.env = (false, eval a X.env) :: starEach es X.env := by rfl)
    (hpl : ((backTo pos (starEach (a :: es) X.env)).any (·.1) || (backToKw pos (keywordEach kws X.env)).any (·.1.isNone)) = false := by rfl) :
    PP X (.Call (.Name x p) (a :: es) kws pos) (pFdK F g ps.length fs fk) := by
  obtain ⟨t, pa, ka⟩ := ha.run
  refine PP.of ⟨_, pe_fdK c hx hb gv hr hgd takes_no pa hw.pk hg hall hks hdb he hpl, fun W H σ e Q r sr hf kq => ?_⟩
  obtain ⟨rs, e1, hf⟩ := Option.bind_eq_some_iff.mp hf
  obtain ⟨qs, e2, hf⟩ := Option.bind_eq_some_iff.mp hf
  split at hf
  rotate_left
  · cases hf
  rename_i hl
  refine ka W H σ e _ rs sr e1 fun vs W1 H1 g1 k1 => ?_
  show tA X.K fk σ H1 _
  refine ⟨W1, e, qs, g1.sr sr, e2, fun zs W2 H2 g2 k2 => ?_⟩
  have k3 := gr.rv (k1.grow g2 g1.wm) (k2.back fun a h => g1.fresh h)
  exact callP_ok sr.wm (g1.trans g2) k3 hf kq (by rw [← k3.len]; exact hl)
end
end DL

set_option maxHeartbeats 2000000
namespace DL
open PySem PySem.Spec PyProof.Rows L2

/-! ## calls that may change what the caller lends, or let an exception out -/
/-- an argument: frozen; the list of slot i, lent; a new list, given away -/
inductive AR where
  | fz (x : D) | bw (i : Nat) | ow (xs : List D)
inductive OA where
  | stuck | ok (as : List AR) (e : En) | ex (x : XD) (e : En)
@[simp] def OA.cons (a : AR) : OA → OA
  | .stuck => .stuck
  | .ok as e => .ok (a :: as) e
  | .ex x e => .ex x e
@[simp] def argS : List AR → En → Option (List S)
  | [], _ => some []
  | a :: as, e => (match a with
    | .fz x => some (S.d x)
    | .bw i => (match e[i]? with
      | some (some (.lst xs)) => some (S.lst xs)
      | _ => none)
    | .ow xs => some (S.lst xs)).bind fun s => (argS as e).map fun ss => s :: ss
@[simp] def bws : List AR → List Nat
  | [] => []
  | .bw i :: as => i :: bws as
  | _ :: as => bws as
@[simp] def ows : List AR → Nat
  | [] => 0
  | .ow _ :: as => ows as + 1
  | _ :: as => ows as
@[simp] def arOk (as : List AR) : Bool := decide ((bws as).Nodup) && decide (ows as ≤ 1)
@[simp] def putAt (i : Nat) (t : Option S) (e : En) : Option En := match t with
  | some (.lst xs) => some (e.set i (some (.lst xs)))
  | _ => none
@[simp] def putb : List AR → En → En → Option En
  | [], _, e => some e
  | a :: as, o, e => match o with
    | [] => none
    | t :: r => match a with
      | .bw i => (putAt i t e).bind (putb as r)
      | _ => putb as r e
theorem putAt_ok {i : Nat} {t : Option S} {e e2 : En} (h : putAt i t e = some e2) : ∃ xs, t = some (.lst xs) ∧ e2 = e.set i (some (.lst xs)) := by
  unfold putAt at h
  split at h
  · cases h; exact ⟨_, rfl, rfl⟩
  · cases h
@[simp] def callM (F : List S → Out) (as : List AR) (e : En) : Out := match argS as e with
  | none => .stuck
  | some ss => if arOk as = true then (match F ss with
    | .stuck => .stuck
    | .ok s o => (match putb as o e with
      | some e2 => .ok s e2
      | none => .stuck)
    | .ex x o => (match putb as o e with
      | some e2 => .ex x e2
      | none => .stuck)) else .stuck
/-- H0: ahead of the call's arguments -/
def ARok (H0 : Hp) (W : List Addr) (K : PySem.W.Frag) (H : Hp) (σ : St) (e : En) : AR → V → Prop
  | .fz d, v => Rp W K H d v
  | .bw i, v => σ[i]? = some (some v)
  | .ow xs, v => ∃ a vs, v = .ref a ∧ H0 a = none ∧ a ∈ W ∧ H a = some (.lst vs) ∧ RpL W K H xs vs ∧ ¬ Ow σ e a
def ARs (H0 : Hp) (W : List Addr) (K : PySem.W.Frag) (H : Hp) (σ : St) (e : En) : List AR → List V → Prop
  | [], vs => vs = []
  | a :: as, vs => ∃ v us, vs = v :: us ∧ ARok H0 W K H σ e a v ∧ ARs H0 W K H σ e as us
section
variable {W W1 W2 W' : List Addr} {K : PySem.W.Frag} {mg : Str → Option Value} {Wx : WX} {H0 H H1 H2 H' : Hp} {σ : St} {e e1 e2 o : En} {Q : VK} {F : List S → Out}
theorem ARok.go (x : EX W H σ e W1 H1 σ e1) (r : SR W K H σ e) : ∀ {a : AR} {v : V}, ARok H0 W K H σ e a v → ARok H0 W1 K H1 σ e1 a v
  | .fz d, v, h => Rp.mono (x.ex r) d h
  | .bw i, v, h => h
  | .ow xs, v, ⟨a, vs, ev, h0, h1, h2, h3, h4⟩ => let q := x.tmp a h1 h4; ⟨a, vs, ev, h0, q.1, x.keep a _ h2 h4, RpL.mono (x.ex r) xs h3, q.2⟩
theorem ARok.back (k : ∀ a, H a = none → H0 a = none) : ∀ {a : AR} {v : V}, ARok H W1 K H1 σ e1 a v → ARok H0 W1 K H1 σ e1 a v
  | .fz d, v, h => h
  | .bw i, v, h => h
  | .ow xs, v, ⟨a, vs, ev, h0, h⟩ => ⟨a, vs, ev, k a h0, h⟩
theorem ARs.back (k : ∀ a, H a = none → H0 a = none) : ∀ {as : List AR} {vs : List V}, ARs H W1 K H1 σ e1 as vs → ARs H0 W1 K H1 σ e1 as vs
  | [], _, h => h
  | a :: as, _, ⟨v, us, ev, h1, h2⟩ => ⟨v, us, ev, h1.back k, ARs.back k h2⟩
theorem ARs.len : ∀ {as : List AR} {vs : List V}, ARs H0 W K H σ e as vs → vs.length = as.length
  | [], _, h => by cases (show _ = [] from h); rfl
  | a :: as, _, ⟨v, us, ev, h1, h2⟩ => by subst ev; rw [List.length_cons, List.length_cons, ARs.len h2]
theorem ARs.at : ∀ {as : List AR} {vs : List V} {i : Nat} {a : AR}, ARs H0 W K H σ e as vs → as[i]? = some a → ∃ v, vs[i]? = some v ∧ ARok H0 W K H σ e a v
  | [], _, _, _, _, h => by simp at h
  | b :: as, _, 0, a, ⟨v, us, ev, h1, h2⟩, h => by subst ev; simp at h; subst h; exact ⟨v, rfl, h1⟩
  | b :: as, _, i + 1, a, ⟨v, us, ev, h1, h2⟩, h => by
    subst ev
    obtain ⟨u, q1, q2⟩ := ARs.at (i := i) h2 (by simpa using h)
    exact ⟨u, by simpa using q1, q2⟩
theorem argS_len : ∀ {as : List AR} {ss : List S}, argS as e = some ss → ss.length = as.length
  | [], _, h => by cases h; rfl
  | a :: as, ss, h => by
    obtain ⟨s, _, h⟩ := Option.bind_eq_some_iff.mp h
    obtain ⟨r, h1, h2⟩ := Option.map_eq_some_iff.mp h
    rw [← h2, List.length_cons, List.length_cons, argS_len h1]
theorem argS_at : ∀ {as : List AR} {ss : List S} {i : Nat} {a : AR}, argS as e = some ss → as[i]? = some a → (∃ x, a = .fz x ∧ ss[i]? = some (.d x)) ∨ (∃ j xs, a = .bw j ∧ e[j]? = some (some (.lst xs)) ∧ ss[i]? = some (.lst xs)) ∨ ∃ xs, a = .ow xs ∧ ss[i]? = some (.lst xs)
  | [], _, _, _, _, h => by simp at h
  | b :: as, ss, 0, a, h, q => by
    obtain ⟨s, h0, h⟩ := Option.bind_eq_some_iff.mp h
    obtain ⟨r, h1, h2⟩ := Option.map_eq_some_iff.mp h
    simp at q
    subst q h2
    cases b with
    | fz x => cases h0; exact .inl ⟨x, rfl, rfl⟩
    | ow x => cases h0; exact .inr (.inr ⟨x, rfl, rfl⟩)
    | bw j =>
      have h0 : (match e[j]? with | some (some (.lst xs)) => some (S.lst xs) | _ => none) = some s := h0
      split at h0
      · rename_i xs hx
        cases h0
        exact .inr (.inl ⟨j, xs, rfl, hx, rfl⟩)
      · cases h0
  | b :: as, ss, i + 1, a, h, q => by
    obtain ⟨s, h0, h⟩ := Option.bind_eq_some_iff.mp h
    obtain ⟨r, h1, h2⟩ := Option.map_eq_some_iff.mp h
    subst h2
    exact argS_at (i := i) h1 (by simpa using q)
theorem bws_inj : ∀ {as : List AR} {i j k : Nat}, (bws as).Nodup → as[i]? = some (.bw k) → as[j]? = some (.bw k) → i = j
  | [], _, _, _, _, h, _ => by simp at h
  | a :: as, 0, 0, _, _, _, _ => rfl
  | a :: as, 0, j + 1, k, n, h1, h2 => by
    simp at h1 h2
    subst h1
    have n : (k :: bws as).Nodup := n
    exact absurd (bw_mem h2) (List.nodup_cons.mp n).1
  | a :: as, i + 1, 0, k, n, h1, h2 => by
    simp at h1 h2
    subst h2
    have n : (k :: bws as).Nodup := n
    exact absurd (bw_mem h1) (List.nodup_cons.mp n).1
  | a :: as, i + 1, j + 1, k, n, h1, h2 => by
    have n2 : (bws as).Nodup := by
      cases a with
      | bw q => exact (List.nodup_cons.mp (show (q :: bws as).Nodup from n)).2
      | fz q => exact n
      | ow q => exact n
    rw [bws_inj (i := i) (j := j) n2 (by simpa using h1) (by simpa using h2)]
where bw_mem : ∀ {as : List AR} {i k : Nat}, as[i]? = some (.bw k) → k ∈ bws as
  | [], _, _, h => by simp at h
  | a :: as, 0, k, h => by simp at h; subst h; exact List.mem_cons_self
  | a :: as, i + 1, k, h => by
    have := bw_mem (as := as) (i := i) (k := k) (by simpa using h)
    cases a with
    | bw q => exact List.mem_cons_of_mem _ this
    | fz q => exact this
    | ow q => exact this
theorem ows_one : ∀ {as : List AR} {i j : Nat} {xs ys : List D}, ows as ≤ 1 → as[i]? = some (.ow xs) → as[j]? = some (.ow ys) → i = j
  | [], _, _, _, _, _, h, _ => by simp at h
  | a :: as, 0, 0, _, _, _, _, _ => rfl
  | a :: as, 0, j + 1, xs, ys, n, h1, h2 => by
    simp at h1 h2
    subst h1
    have n : ows as + 1 ≤ 1 := n
    have := ow_pos h2
    omega
  | a :: as, i + 1, 0, xs, ys, n, h1, h2 => by
    simp at h1 h2
    subst h2
    have n : ows as + 1 ≤ 1 := n
    have := ow_pos h1
    omega
  | a :: as, i + 1, j + 1, xs, ys, n, h1, h2 => by
    have n2 : ows as ≤ 1 := by
      cases a with
      | bw q => exact n
      | fz q => exact n
      | ow q => exact Nat.le_trans (Nat.le_succ _) (show ows as + 1 ≤ 1 from n)
    rw [ows_one (i := i) (j := j) n2 (by simpa using h1) (by simpa using h2)]
where ow_pos : ∀ {as : List AR} {i : Nat} {xs : List D}, as[i]? = some (.ow xs) → 0 < ows as
  | [], _, _, h => by simp at h
  | a :: as, 0, k, h => by simp at h; subst h; exact Nat.succ_pos _
  | a :: as, i + 1, k, h => by
    have := ow_pos (as := as) (i := i) (xs := k) (by simpa using h)
    cases a with
    | bw q => exact this
    | fz q => exact this
    | ow q => exact Nat.succ_pos _
theorem putb_len : ∀ {as : List AR} {o e e2 : En}, putb as o e = some e2 → e2.length = e.length
  | [], _, _, _, h => by cases h; rfl
  | a :: as, [], _, _, h => by cases h
  | a :: as, t :: r, e, e2, h => by
    cases a with
    | fz x => exact putb_len (as := as) h
    | ow x => exact putb_len (as := as) h
    | bw i =>
      obtain ⟨e3, h1, h2⟩ := Option.bind_eq_some_iff.mp (show (putAt i t e).bind (putb as r) = some e2 from h)
      obtain ⟨xs, _, rfl⟩ := putAt_ok h1
      rw [putb_len (as := as) h2, List.length_set]
theorem putb_at : ∀ {as : List AR} {o e e2 : En} {j : Nat} {t : S}, putb as o e = some e2 → e2[j]? = some (some t) →
    (∃ (k : Nat) (xs : List D), as[k]? = some (AR.bw j) ∧ t = S.lst xs ∧ o[k]? = some (some (S.lst xs))) ∨ (e[j]? = some (some t) ∧ ∀ k : Nat, as[k]? ≠ some (AR.bw j))
  | [], _, _, _, _, _, h, q => by cases h; exact .inr ⟨q, fun k => by simp⟩
  | a :: as, [], _, _, _, _, h, _ => by cases h
  | a :: as, u :: r, e, e2, j, t, h, q => by
    have up : ∀ {e : En}, (∀ i, a = .bw i → i ≠ j) → ((∃ (k : Nat) (xs : List D), as[k]? = some (AR.bw j) ∧ t = S.lst xs ∧ r[k]? = some (some (S.lst xs))) ∨ (e[j]? = some (some t) ∧ ∀ k : Nat, as[k]? ≠ some (AR.bw j))) →
        ((∃ (k : Nat) (xs : List D), (a :: as)[k]? = some (AR.bw j) ∧ t = S.lst xs ∧ (u :: r)[k]? = some (some (S.lst xs))) ∨ (e[j]? = some (some t) ∧ ∀ k : Nat, (a :: as)[k]? ≠ some (AR.bw j))) := by
      intro e hn z
      rcases z with ⟨k, xs, z1, z2, z3⟩ | ⟨z1, z2⟩
      · exact .inl ⟨k + 1, xs, by simpa using z1, z2, by simpa using z3⟩
      · refine .inr ⟨z1, fun k => ?_⟩
        cases k with
        | zero => intro w; simp at w; exact hn j w rfl
        | succ k => simpa using z2 k
    cases a with
    | fz x => exact up (fun i z => nomatch z) (putb_at (as := as) h q)
    | ow x => exact up (fun i z => nomatch z) (putb_at (as := as) h q)
    | bw i =>
      obtain ⟨e3, h1, h2⟩ := Option.bind_eq_some_iff.mp (show (putAt i u e).bind (putb as r) = some e2 from h)
      obtain ⟨xs, rfl, rfl⟩ := putAt_ok h1
      have z := putb_at (as := as) h2 q
      by_cases hij : i = j
      · subst hij
        rcases z with ⟨k, ys, z1, z2, z3⟩ | ⟨z1, z2⟩
        · exact .inl ⟨k + 1, ys, by simpa using z1, z2, by simpa using z3⟩
        · by_cases hl : i < e.length
          · rw [List.getElem?_set_self hl] at z1
            cases z1
            exact .inl ⟨0, xs, rfl, rfl, rfl⟩
          · rw [List.getElem?_eq_none (by simpa using hl)] at z1
            cases z1
      · rw [List.getElem?_set_ne hij] at z
        exact up (fun _ w => by cases w; exact hij) z
/-- behind the callee: the caller's frame again -/
theorem call_ok {as : List AR} {vs : List V} {n : Nat} (wm : WM W H) (sr1 : SR W1 K H1 σ e1) (x1 : EX W H σ e W1 H1 σ e1) (ar : ARs H W1 K H1 σ e1 as vs) (hn : as.length = n)
    (h : OutK K mg Wx W H σ e Q (callM F as e1)) : spF K mg n F (fun c d H' => Wx c d σ H') vs H1 Q := by
  refine ⟨by rw [ar.len, hn], W1, ?_⟩
  unfold callM at h
  cases hs : argS as e1 with
  | none => rw [hs] at h; exact h.elim
  | some ss =>
    rw [hs] at h
    have h : OutK K mg Wx W H σ e Q (if arOk as = true then (match F ss with
      | .stuck => .stuck
      | .ok s o => (match putb as o e1 with
        | some e2 => .ok s e2
        | none => .stuck)
      | .ex x o => (match putb as o e1 with
        | some e2 => .ex x e2
        | none => .stuck)) else .stuck) := h
    split at h
    rotate_left
    · exact h.elim
    rename_i hok
    obtain ⟨hb1, hb2⟩ := Bool.and_eq_true_iff.mp (show (decide ((bws as).Nodup) && decide (ows as ≤ 1)) = true from hok)
    have nd := of_decide_eq_true hb1
    have n1 := of_decide_eq_true hb2
    have hlen : ss.length = vs.length := by rw [argS_len hs, ar.len]
    -- what the callee's frame owns
    have own_at : ∀ {i : Nat} {s : S} {a : Addr}, (ss.map some)[i]? = some (some s) → s.own = true → (vs.map some)[i]? = some (some (.ref a)) →
        (∃ j xs, as[i]? = some (.bw j) ∧ e1[j]? = some (some (.lst xs)) ∧ σ[j]? = some (some (.ref a)) ∧ s = .lst xs) ∨ (∃ xs, as[i]? = some (.ow xs) ∧ H a = none ∧ ¬ Ow σ e1 a ∧ s = .lst xs) := by
      intro i s a h1 h2 h3
      obtain ⟨s', q1, q2⟩ := get_map h1
      cases q2
      obtain ⟨v', p1, p2⟩ := get_map h3
      cases p2
      have hi : i < as.length := by rw [← argS_len hs]; exact (List.getElem?_eq_some_iff.mp q1).1
      obtain ⟨ar', hai⟩ : ∃ z, as[i]? = some z := ⟨as[i], List.getElem?_eq_getElem hi⟩
      obtain ⟨v2, w1, w2⟩ := ar.at hai
      rw [p1] at w1
      cases w1
      rcases argS_at hs hai with ⟨x, rfl, y⟩ | ⟨j, xs, rfl, y1, y2⟩ | ⟨xs, rfl, y⟩
      · rw [q1] at y; cases y; cases h2
      · rw [q1] at y2; cases y2
        exact .inl ⟨j, xs, hai, y1, w2, rfl⟩
      · rw [q1] at y; cases y
        obtain ⟨b, us, eb, z0, z1, z2, z3, z4⟩ := w2
        cases eb
        exact .inr ⟨xs, hai, z0, z4, rfl⟩
    have r0 : SR W1 K H1 (vs.map some) (ss.map some) := by
      refine ⟨sr1.wm, by rw [List.length_map, List.length_map, hlen], fun i s q => ?_, fun i j s t a q1 q2 o1 o2 p1 p2 => ?_⟩
      · obtain ⟨s', q1, q2⟩ := get_map q
        cases q2
        have hi : i < as.length := by rw [← argS_len hs]; exact (List.getElem?_eq_some_iff.mp q1).1
        obtain ⟨ar', hai⟩ : ∃ z, as[i]? = some z := ⟨as[i], List.getElem?_eq_getElem hi⟩
        obtain ⟨v2, w1, w2⟩ := ar.at hai
        refine ⟨v2, by rw [List.getElem?_map, w1]; rfl, ?_⟩
        rcases argS_at hs hai with ⟨x, rfl, y⟩ | ⟨j, xs, rfl, y1, y2⟩ | ⟨xs, rfl, y⟩
        · rw [q1] at y; cases y; exact w2
        · rw [q1] at y2; cases y2
          obtain ⟨v3, u1, u2⟩ := sr1.sl j _ y1
          rw [show σ[j]? = some (some v2) from w2] at u1
          cases u1
          exact u2
        · rw [q1] at y; cases y
          obtain ⟨b, us, eb, z0, z1, z2, z3, z4⟩ := w2
          exact ⟨b, us, eb, z1, z2, z3⟩
      · rcases own_at q1 o1 p1 with ⟨j1, xs1, a1, b1, c1, _⟩ | ⟨xs1, a1, b1, c1, _⟩
        · rcases own_at q2 o2 p2 with ⟨j2, xs2, a2, b2, c2, _⟩ | ⟨xs2, a2, b2, c2, _⟩
          · have := sr1.one j1 j2 _ _ a b1 b2 rfl rfl c1 c2
            subst this
            exact bws_inj nd a1 a2
          · exact absurd ⟨j1, _, b1, rfl, c1⟩ c2
        · rcases own_at q2 o2 p2 with ⟨j2, xs2, a2, b2, c2, _⟩ | ⟨xs2, a2, b2, c2, _⟩
          · exact absurd ⟨j2, _, b2, rfl, c2⟩ c1
          · exact ows_one n1 a1 a2
    refine ⟨ss, r0, ?_⟩
    have not_own : ∀ {a : Addr} {oo : HO}, H a = some oo → ¬ Ow σ e a → ¬ Ow (vs.map some) (ss.map some) a := by
      rintro a oo ha nn ⟨i, s, z1, z2, z3⟩
      rcases own_at z1 z2 z3 with ⟨j, xs, _, y1, y2, _⟩ | ⟨xs, _, y1, _⟩
      · rcases x1.sub a ⟨j, _, y1, rfl, y2⟩ with w | w
        · exact nn w
        · rw [ha] at w; cases w
      · rw [ha] at y1; cases y1
    -- the two ends alike
    have key : ∀ {o : En} {e2 : En} {W' : List Addr} {H' : Hp}, putb as o e1 = some e2 → SR W' K H' (vs.map some) o → EX W1 H1 (vs.map some) (ss.map some) W' H' (vs.map some) o →
        SR W' K H' σ e2 ∧ EX W H σ e W' H' σ e2 ∧ ∀ a, Ow σ e2 a → Ow σ e1 a := by
      intro o e2 W' H' hp sr' x'
      have own1 : ∀ {j : Nat} {t : S}, e2[j]? = some (some t) → t.own = true → ∃ ys, e1[j]? = some (some (.lst ys)) := by
        intro j t q1 q2
        rcases putb_at hp q1 with ⟨k, xs, z1, z2, z3⟩ | ⟨z1, _⟩
        · rcases argS_at hs z1 with ⟨x, y, _⟩ | ⟨j', ys, y, y1, _⟩ | ⟨ys, y, _⟩
          · cases y
          · cases y; exact ⟨ys, y1⟩
          · cases y
        · obtain ⟨ys, rfl⟩ := own_lst q2
          exact ⟨ys, z1⟩
      have ow21 : ∀ a, Ow σ e2 a → Ow σ e1 a := by
        rintro a ⟨j, t, q1, q2, q3⟩
        obtain ⟨ys, y⟩ := own1 q1 q2
        exact ⟨j, _, y, rfl, q3⟩
      refine ⟨⟨sr'.wm, by rw [putb_len hp, sr1.len], fun j t q => ?_, fun i j s t a q1 q2 o1 o2 p1 p2 => ?_⟩, ⟨fun a oo ha nn => ?_, fun a oo ha na => ?_, fun a ha nn => ?_, fun a ha => x1.sub a (ow21 a ha), fun a ha => x1.dom a (x'.dom a ha)⟩, ow21⟩
      · rcases putb_at hp q with ⟨k, xs, z1, rfl, z3⟩ | ⟨z1, z2⟩
        · obtain ⟨v, w1, w2⟩ := ar.at z1
          obtain ⟨v', u1, u2⟩ := sr'.sl k _ z3
          rw [List.getElem?_map, w1] at u1
          cases u1
          exact ⟨v, w2, u2⟩
        · obtain ⟨v, w1, w2⟩ := sr1.sl j t z1
          refine ⟨v, w1, ?_⟩
          cases t with
          | d y => exact Rp.mono (x'.ex r0) y w2
          | lst ys =>
            obtain ⟨a, us, rfl, p1, p2, p3⟩ := w2
            have na : ¬ Ow (vs.map some) (ss.map some) a := by
              rintro ⟨i, s, y1, y2, y3⟩
              rcases own_at y1 y2 y3 with ⟨j', xs, u0, u1, u2, _⟩ | ⟨xs, _, _, u1, _⟩
              · have := sr1.one j' j _ _ a u1 z1 rfl rfl u2 w1
                subst this
                exact z2 i u0
              · exact u1 ⟨j, _, z1, rfl, w1⟩
            exact ⟨a, us, rfl, (x'.tmp a p1 na).1, x'.keep a _ p2 na, RpL.mono (x'.ex r0) ys p3⟩
      · obtain ⟨ys, y1⟩ := own1 q1 o1
        obtain ⟨zs, y2⟩ := own1 q2 o2
        exact sr1.one i j _ _ a y1 y2 rfl rfl p1 p2
      · exact x'.keep a oo (x1.keep a oo ha nn) (not_own ha nn)
      · have n1 := x1.frz a oo ha na
        cases hh : H1 a with
        | none => rw [x1.dom a hh] at ha; cases ha
        | some o1 => exact x'.frz a o1 hh n1
      · obtain ⟨m1, m2⟩ := x1.tmp a ha nn
        have hne := isSome_of_mut (wm a ha)
        cases hh : H a with
        | none => exact absurd hh hne
        | some oo => exact ⟨(x'.tmp a m1 (not_own hh nn)).1, fun z => m2 (ow21 a z)⟩
    revert h
    generalize F ss = r
    intro h
    cases r with
    | stuck => exact h.elim
    | ok s o =>
      have h : OutK K mg Wx W H σ e Q (match putb as o e1 with | some e2 => .ok s e2 | none => .stuck) := h
      cases hp : putb as o e1 with
      | none => rw [hp] at h; exact h.elim
      | some e2 =>
        rw [hp] at h
        intro v W' H' sr' x' rs fr
        obtain ⟨s2, x2, ow⟩ := key hp sr' x'
        exact h v W' H' s2 x2 rs fun so a ea => ⟨x1.dom a (fr so a ea).1, fun z => sr1.thr (sr1.ow (ow a z)) (fr so a ea).1⟩
    | ex y o =>
      have h : OutK K mg Wx W H σ e Q (match putb as o e1 with | some e2 => .ex y e2 | none => .stuck) := h
      cases hp : putb as o e1 with
      | none => rw [hp] at h; exact h.elim
      | some e2 =>
        rw [hp] at h
        intro c d W' H' sr' x' rx
        obtain ⟨s2, x2, ow⟩ := key hp sr' x'
        exact h c d W' H' s2 x2 rx
end
def OAK (K : PySem.W.Frag) (mg : Str → Option Value) (Wx : WX) (W : List Addr) (H : Hp) (σ : St) (e : En) (Q : List V → Hp → Prop) : OA → Prop
  | .stuck => False
  | .ok as e' => ∀ vs W' H', SR W' K H' σ e' → EX W H σ e W' H' σ e' → ARs H W' K H' σ e' as vs → Q vs H'
  | .ex x e' => ∀ cls d W' H', SR W' K H' σ e' → EX W H σ e W' H' σ e' → XR mg W' K H' x cls d → Wx cls d σ H'
abbrev FAR := En → OA
def tAr (K : PySem.W.Frag) (mg : Str → Option Value) (Wx : WX) (f : FAR) : TA := fun σ H Q => ∃ (W : List Addr) (e : En), SR W K H σ e ∧ OAK K mg Wx W H σ e Q (f e)
structure ARJ (X : Cx) (Wx : WX) (es : List Expr) (f : FAR) : Prop where
  pa : PA X es (tAr X.K X.mg Wx f)
theorem ARJ.of {X : Cx} {Wx : WX} {es : List Expr} {f : FAR} (h : ∃ t : TA, PA X es t ∧ ∀ (W : List Addr) (H : Hp) (σ : St) (e : En) (Q : List V → Hp → Prop), SR W X.K H σ e → OAK X.K X.mg Wx W H σ e Q (f e) → t σ H Q) : ARJ X Wx es f :=
  let ⟨_, p, k⟩ := h; ⟨⟨fun pos pins s σ H Q I ⟨W, e, a, b⟩ => p.run pos pins s σ H Q I (k W H σ e Q a b)⟩⟩
theorem ARJ.run {X : Cx} {Wx : WX} {es : List Expr} {f : FAR} (h : ARJ X Wx es f) : ∃ t : TA, PA X es t ∧ ∀ (W : List Addr) (H : Hp) (σ : St) (e : En) (Q : List V → Hp → Prop), SR W X.K H σ e → OAK X.K X.mg Wx W H σ e Q (f e) → t σ H Q :=
  ⟨_, h.pa, fun W H σ e Q a b => ⟨W, e, a, b⟩⟩
section
variable {X : Cx} {Wx : WX} {k : Nat} {d : He.DefD} {ps : List Str} {F : List S → Out} {x : Str} {p pos : Pos} {a : Expr} {es : List Expr} {fa : FM} {fs : FAR}
theorem OAK.go {W W1 : List Addr} {K : PySem.W.Frag} {mg : Str → Option Value} {H H1 : Hp} {σ : St} {e e1 : En} {Q : List V → Hp → Prop} (x : EX W H σ e W1 H1 σ e1) : ∀ {o : OA}, OAK K mg Wx W H σ e Q o → OAK K mg Wx W1 H1 σ e1 Q o
  | .stuck, h => h
  | .ok as e', h => fun vs W' H' sr y r => h vs W' H' sr (x.trans y) (r.back x.dom)
  | .ex z e', h => fun c d W' H' sr y r => h c d W' H' sr (x.trans y) r
theorem OAK.cons {W W1 : List Addr} {K : PySem.W.Frag} {mg : Str → Option Value} {H H1 : Hp} {σ : St} {e e1 : En} {Q : List V → Hp → Prop} {b : AR} {v : V} (sr : SR W1 K H1 σ e1) (x : EX W H σ e W1 H1 σ e1) (r : ARok H W1 K H1 σ e1 b v) : ∀ {o : OA}, OAK K mg Wx W H σ e Q (OA.cons b o) → OAK K mg Wx W1 H1 σ e1 (fun us H' => Q (v :: us) H') o
  | .stuck, h => h
  | .ex _ _, h => fun c d W' H' sr' y r' => h c d W' H' sr' (x.trans y) r'
  | .ok ds e', h => fun us W' H' sr' y r' => h (v :: us) W' H' sr' (x.trans y) ⟨v, us, rfl, r.go y sr, r'.back x.dom⟩
@[simp] def arNil : FAR := fun e => .ok [] e
theorem ar_nil : ARJ X Wx [] arNil := ARJ.of ⟨_, pa_nil, fun W H σ e Q sr h => h [] W H sr .refl rfl⟩
/-- slot i's list is lent -/
@[simp] def arBw (i : Nat) (fs : FAR) : FAR := fun e => match e[i]? with
  | some (some (.lst _)) => OA.cons (.bw i) (fs e)
  | _ => .stuck
theorem ar_bw (i : Nat) {y : Str} {py : Pos} (hr : ARJ X Wx es fs) (hN : X.N[i]? = some y := by rfl) (hv : Vis X.env.scope y := by first | exact Or.inl rfl | exact Or.inr (Or.inl rfl) | exact Or.inr (Or.inr rfl)) (hd : (y == ("__debug__" : Str)) = false := by decide)
    (hcd : (y == ("__classdict__" : Str)) = false := by decide) (hs : starEach (.Name y py :: es) X.env = (false, eval (.Name y py) X.env) :: starEach es X.env := by rfl) : ARJ X Wx (.Name y py :: es) (arBw i fs) := by
  obtain ⟨u, p', kb⟩ := hr.run
  refine ARJ.of ⟨_, pa_cons (pe_var hN hv hd hcd) p' hs, fun W H σ e Q sr h => ?_⟩
  unfold arBw at h
  split at h
  · rename_i xs hx
    obtain ⟨v, h1, h2⟩ := sr.sl i _ hx
    exact ⟨v, h1, kb W H σ e _ sr (OAK.cons (b := .bw i) sr .refl h1 h)⟩
  · exact h.elim
@[simp] def Out.arF (o : Out) (fs : FAR) : OA := match o with
  | .stuck => .stuck
  | .ok s e => OA.cons (.fz s.view) (fs e)
  | .ex x e => .ex x e
@[simp] def arFz (fa : FM) (fs : FAR) : FAR := fun e => (fa e).arF fs
theorem ar_fz (ha : PM X Wx a fa) (hr : ARJ X Wx es fs) (hs : starEach (a :: es) X.env = (false, eval a X.env) :: starEach es X.env := by rfl) : ARJ X Wx (a :: es) (arFz fa fs) := by
  obtain ⟨t, p, ka⟩ := ha.run
  obtain ⟨u, p', kb⟩ := hr.run
  refine ARJ.of ⟨_, pa_cons p p' hs, fun W H σ e Q sr h => ka W H σ e _ sr ?_⟩
  unfold arFz at h
  revert h
  generalize fa e = o
  intro h
  refine DK.out sr.wm ?_
  cases o with
  | stuck => exact h
  | ex x e1 => exact h
  | ok s e1 =>
    intro v W1 H1 sr1 x r
    exact kb W1 H1 σ e1 _ sr1 (OAK.cons (b := .fz s.view) sr1 x r h)
@[simp] def Out.arO (o : Out) (fs : FAR) : OA := match o with
  | .ok (.lst xs) e => OA.cons (.ow xs) (fs e)
  | .ex x e => .ex x e
  | _ => .stuck
@[simp] def arOw (fa : FM) (fs : FAR) : FAR := fun e => (fa e).arO fs
theorem ar_ow (ha : PM X Wx a fa) (hr : ARJ X Wx es fs) (hs : starEach (a :: es) X.env = (false, eval a X.env) :: starEach es X.env := by rfl) : ARJ X Wx (a :: es) (arOw fa fs) := by
  obtain ⟨t, p, ka⟩ := ha.run
  obtain ⟨u, p', kb⟩ := hr.run
  refine ARJ.of ⟨_, pa_cons p p' hs, fun W H σ e Q sr h => ka W H σ e _ sr ?_⟩
  unfold arOw at h
  revert h
  generalize fa e = o
  intro h
  cases o with
  | stuck => exact h
  | ex x e1 => exact h
  | ok s e1 =>
    cases s with
    | d y => exact h.elim
    | lst xs =>
      intro v W1 H1 sr1 x r fr
      obtain ⟨b, us, rfl, q1, q2, q3⟩ := r
      exact kb W1 H1 σ e1 _ sr1 (OAK.cons (b := .ow xs) sr1 x ⟨b, us, rfl, (fr rfl b rfl).1, q1, q2, q3, (fr rfl b rfl).2⟩ h)
@[simp] def OA.bind (o : OA) (f : List AR → En → Out) : Out := match o with
  | .stuck => .stuck
  | .ok as e => f as e
  | .ex x e => .ex x e
@[simp] def mFd (n : Nat) (F : List S → Out) (fs : FAR) : FM := fun e => (fs e).bind fun as e1 => if as.length = n then callM F as e1 else .stuck
theorem pm_fd (c : Cal X.prog X.w X.K X.mg X.base k d ps F) (hx : d.name = x) (hb : BindsA d ps) (hr : Room k X.A) (hgd : X.A.guards = some []) (tk : Takes X Wx) (ha : ARJ X Wx (a :: es) fs) (hg : Gl X x := by rfl)
    (hdb : (x == ("__debug__" : Str)) = false := by decide) (he : starEach (a :: es) X.env = (false, eval a X.env) :: starEach es X.env := by rfl) (hpl : (backTo pos (starEach es X.env)).any (·.1) = false := by rfl) :
    PM X Wx (.Call (.Name x p) (a :: es) [] pos) (mFd ps.length F fs) := by
  obtain ⟨t, pa, ka⟩ := ha.run
  refine PM.of ⟨_, pe_fd c hx hb hr hgd tk pa hg hdb he hpl, fun W H σ e Q sr h => ka W H σ e _ sr ?_⟩
  unfold mFd at h
  revert h
  generalize fs e = o
  intro h
  cases o with
  | stuck => exact h
  | ex x e1 => exact h
  | ok as e1 =>
    intro vs W1 H1 sr1 x ar
    have h : OutK X.K X.mg Wx W H σ e Q (if as.length = ps.length then callM F as e1 else .stuck) := h
    split at h
    · rename_i hn
      exact call_ok sr.wm sr1 x ar hn h
    · exact h.elim
end
end DL

set_option maxHeartbeats 2000000
namespace DL
open PySem PySem.Spec PyProof.Rows L2

/-! ## lists that a slot owns -/
section
variable {W W' W1 : List Addr} {K : PySem.W.Frag} {mg : Str → Option Value} {Wx : WX} {H H' H1 : Hp} {σ σ1 σ' : St} {e e1 e' : En} {Q : VK}
theorem SR.hit (r : SR W K H σ e) {i : Nat} {xs : List D} (h : e[i]? = some (some (.lst xs))) : ∃ a vs, σ[i]? = some (some (.ref a)) ∧ a ∈ W ∧ H a = some (.lst vs) ∧ RpL W K H xs vs := by
  obtain ⟨v, h1, a, vs, rfl, h2, h3, h4⟩ := r.sl i _ h
  exact ⟨a, vs, h1, h2, h3, h4⟩
/-- slot i's list gets other contents -/
theorem SR.setL (r : SR W K H σ e) {i : Nat} {xs ys : List D} {a : Addr} {us : List V} (h : e[i]? = some (some (.lst xs))) (ha : σ[i]? = some (some (.ref a))) (hw : a ∈ W) (hy : RpL W K H ys us) :
    SR W K (upd H a (.lst us)) σ (e.set i (some (.lst ys))) ∧ EX W H σ e W (upd H a (.lst us)) σ (e.set i (some (.lst ys))) := by
  have hl : i < e.length := (List.getElem?_eq_some_iff.mp h).1
  have ow : Ow σ e a := ⟨i, _, h, rfl, ha⟩
  have x : Ex W H W (upd H a (.lst us)) := ⟨r.wm, fun b o hb n => ⟨by rw [upd_ne fun (z : b = a) => n (by rw [z]; exact hw)]; exact hb, n⟩⟩
  have back : ∀ {j : Nat} {s : S}, (e.set i (some (S.lst ys)))[j]? = some (some s) → (i = j ∧ s = .lst ys) ∨ (i ≠ j ∧ e[j]? = some (some s)) := by
    intro j s q
    by_cases z : i = j
    · subst z
      rw [List.getElem?_set_self hl] at q
      cases q
      exact .inl ⟨rfl, rfl⟩
    · rw [List.getElem?_set_ne z] at q
      exact .inr ⟨z, q⟩
  have owb : ∀ b, Ow σ (e.set i (some (S.lst ys))) b → Ow σ e b := by
    rintro b ⟨j, s, q1, q2, q3⟩
    rcases back q1 with ⟨rfl, _⟩ | ⟨_, q⟩
    · exact ⟨i, _, h, rfl, q3⟩
    · exact ⟨j, s, q, q2, q3⟩
  refine ⟨⟨fun b hb => ?_, by rw [List.length_set, r.len], fun j s q => ?_, fun j k s t b q1 q2 o1 o2 p1 p2 => ?_⟩, ⟨fun b o hb n => ?_, fun _ _ _ n => n, fun b hb n => ⟨hb, fun z => n (owb b z)⟩, fun b z => .inl (owb b z), fun b hb => ?_⟩⟩
  · by_cases z : b = a
    · subst z; rw [upd_same]; trivial
    · rw [upd_ne z]; exact r.wm b hb
  · rcases back q with ⟨rfl, rfl⟩ | ⟨z, q⟩
    · exact ⟨_, ha, a, us, rfl, hw, upd_same, RpL.mono x ys hy⟩
    · obtain ⟨v, h1, h2⟩ := r.sl j s q
      refine ⟨v, h1, ?_⟩
      cases s with
      | d y => exact Rp.mono x y h2
      | lst zs =>
        obtain ⟨b, vs, rfl, p1, p2, p3⟩ := h2
        refine ⟨b, vs, rfl, p1, ?_, RpL.mono x zs p3⟩
        rw [upd_ne fun (w : b = a) => z (r.one i j _ _ a h q rfl rfl ha (by rw [← w]; exact h1))]
        exact p2
  · rcases back q1 with ⟨rfl, rfl⟩ | ⟨z1, q1⟩
    · rcases back q2 with ⟨rfl, rfl⟩ | ⟨z2, q2⟩
      · rfl
      · exact r.one i k _ _ b h q2 rfl o2 p1 p2
    · rcases back q2 with ⟨rfl, rfl⟩ | ⟨z2, q2⟩
      · exact r.one j i _ _ b q1 h o1 rfl p1 p2
      · exact r.one j k _ _ b q1 q2 o1 o2 p1 p2
  · rw [upd_ne fun (z : b = a) => n (by rw [z]; exact ow)]; exact hb
  · cases q : H b with
    | none => rfl
    | some o =>
      by_cases z : b = a
      · rw [z, upd_same] at hb; cases hb
      · rw [upd_ne z, q] at hb; cases hb
/-- .. and is left by name -/
theorem OutK.at (x : SR W1 K H1 σ e1 ∧ EX W H σ e W1 H1 σ e1) {s : D} {v : V} (r : Rp W1 K H1 s v) (h : OutK K mg Wx W H σ e Q (.ok (.d s) e1)) : Q v H1 := h v W1 H1 x.1 x.2 r fun z => nomatch z
end
section
variable {X : Cx} {Wx : WX} {a b : Expr} {fa fb : FM} {x : Str} {px apos cpos pos : Pos}
/-- a change of slot i's list by a value: what it answers, what it leaves -/
@[simp] def chg (i : Nat) (g : List D → D → Option (D × List D)) (d : D) (e : En) : Out := match e[i]? with
  | some (some (.lst xs)) => (match g xs d with
    | some (y, ys) => .ok (.d y) (e.set i (some (.lst ys)))
    | none => .stuck)
  | _ => .stuck
@[simp] def isL (i : Nat) (e : En) : Bool := match e[i]? with
  | some (some (.lst _)) => true
  | _ => false
@[simp] def mMt (i : Nat) (g : List D → D → Option (D × List D)) (fa : FM) : FM := fun e => if isL i e = true then (fa e).bind (chg i g) else .stuck
structure MtL (X : Cx) (id : String) (g : List D → D → Option (D × List D)) : Prop where
  run : ∃ r : V → List V → Hp → VK → Prop, MtR X id r ∧ ∀ (W : List Addr) (H : Hp) (l : Addr) (xs ys : List D) (d y : D) (vs : List V) (v : V) (Q : VK), WM W H → H l = some (.lst vs) → l ∈ W → RpL W X.K H xs vs → Rp W X.K H d v → g xs d = some (y, ys) →
    (∀ u us, Rp W X.K H y u → RpL W X.K H ys us → Q u (upd H l (.lst us))) → r (.ref l) [v] H Q
theorem pm_mt {id : String} {m : Str} {g : List D → D → Option (D × List D)} (i : Nat) (ho : MtL X id g) (slot : Slot "list" m id) (hty : typeOf (.builtin id) = pure (.type "method_descriptor")) (ha : PM X Wx a fa) (hN : X.N[i]? = some x := by rfl) (hv : Vis X.env.scope x := by first | exact Or.inl rfl | exact Or.inr (Or.inl rfl) | exact Or.inr (Or.inr rfl))
    (hd : (x == ("__debug__" : Str)) = false := by decide) (hcd : (x == ("__classdict__" : Str)) = false := by decide)
    (hbase : attributeBase (.Name x px) m X.env (eval (.Name x px) X.env) = eval (.Name x px) X.env := by rfl)
    (hfew : ((backTo cpos (starEach [a] X.env)).all (fun x => !x.1) && (backToKw cpos (keywordEach [] X.env)).all (fun x => x.1.isSome) && decide (([a] : List Expr).length + ([] : List Keyword).length + (if ([] : List Keyword).isEmpty then 0 else 1) < 30)) = true := by rfl)
    (hline : (apos.endLine == cpos.line) = true := by rfl) (hs : starEach [a] X.env = (false, eval a X.env) :: starEach [] X.env := by rfl) (hplain : (backTo cpos (starEach [] X.env)).any (·.1) = false := by rfl) :
    PM X Wx (.Call (.Attribute (.Name x px) m apos) [a] [] cpos) (mMt i g fa) := by
  obtain ⟨rl, h1, h2⟩ := ho.run
  obtain ⟨t, p, ka⟩ := ha.run
  refine PM.of ⟨_, pe_bm F.plainAttrs_list slot hty h1 (pe_var hN hv hd hcd) (pa_cons p pa_nil hs) hbase hfew hline hs hplain, fun W H σ e Q sr h => ?_⟩
  unfold mMt at h
  split at h
  rotate_left
  · exact h.elim
  rename_i hl
  unfold isL at hl
  split at hl
  rotate_left
  · cases hl
  rename_i xs0 hx0
  obtain ⟨l, vs0, e1, e2, e3, e4⟩ := sr.hit hx0
  refine ⟨_, e1, .inl ⟨rfl, vs0, .of e3⟩, ?_⟩
  refine ka W H σ e _ sr (DK.bind sr.wm h fun d v e' W1 H1 sr1 x1 r1 hc => ?_)
  show rl _ [v] H1 Q
  unfold chg at hc
  split at hc
  rotate_left
  · exact hc.elim
  rename_i xs hx
  split at hc
  rotate_left
  · exact hc.elim
  rename_i y ys hg
  obtain ⟨l', vs, q1, q2, q3, q4⟩ := sr1.hit hx
  rw [e1] at q1
  cases q1
  exact h2 W1 H1 l xs ys d y vs v Q sr1.wm q3 q2 q4 r1 hg fun u us ru rus => OutK.at (sr1.setL hx e1 q2 rus) (Rp.mono (EX.ex (sr1.setL hx e1 q2 rus).2 sr1) y ru) hc
@[simp] def gApp (xs : List D) (d : D) : Option (D × List D) := if xs.length < SZ then some (.non, xs ++ [d]) else none
theorem l_append : MtL X "list.append" gApp := by
  refine ⟨_, mt_append, fun W H l xs ys d y vs v Q wm hl hw rx rd hg k => ?_⟩
  unfold gApp at hg
  split at hg
  · rename_i hz
    cases hg
    exact ⟨l, vs, v, rfl, rfl, hl, by rw [SZ_eq, ← rx.length]; exact hz, k _ _ rfl (rx.append (.one rd))⟩
  · cases hg
@[simp] def gExt (xs : List D) (d : D) : Option (D × List D) := match d with
  | .lst ys => if xs.length + ys.length ≤ SZ then some (.non, xs ++ ys) else none
  | _ => none
theorem l_extend : MtL X "list.extend" gExt := by
  refine ⟨_, mt_extend, fun W H l xs ys d y vs v Q wm hl hw rx rd hg k => ?_⟩
  unfold gExt at hg
  split at hg
  · split at hg
    · rename_i zs hz
      cases hg
      obtain ⟨b, us, rfl, q1, q2⟩ := rd
      exact ⟨l, b, vs, us, rfl, rfl, hl, q1.1, by rw [SZ_eq, ← rx.length, ← q2.length]; exact hz, k _ _ rfl (rx.append q2)⟩
    · cases hg
  · cases hg
@[simp] def gPopAt (xs : List D) (d : D) : Option (D × List D) := match d with
  | .int i => if -(2 ^ 63) ≤ i ∧ i < 2 ^ 63 then (seqIndex? i xs.length).bind fun k => (xs[k]?).map fun y => (y, xs.eraseIdx k) else none
  | _ => none
theorem l_popAt : MtL X "list.pop" gPopAt := by
  refine ⟨_, mt_popAt, fun W H l xs ys d y vs v Q wm hl hw rx rd hg k => ?_⟩
  unfold gPopAt at hg
  split at hg
  · split at hg
    · rename_i i hz
      obtain ⟨j, e1, hg⟩ := Option.bind_eq_some_iff.mp hg
      obtain ⟨z, e2, hg⟩ := Option.map_eq_some_iff.mp hg
      cases hg
      obtain ⟨u, e3, ru⟩ := rx.get e2
      cases (show v = .int i from rd)
      exact ⟨l, vs, i, j, u, rfl, rfl, hl, hz.1, hz.2, by rw [← rx.length]; exact e1, e3, k _ _ ru (rx.eraseIdx j)⟩
    · cases hg
  · cases hg
/-- without an argument -/
@[simp] def chg0 (i : Nat) (g : List D → Option (D × List D)) (e : En) : Out := match e[i]? with
  | some (some (.lst xs)) => (match g xs with
    | some (y, ys) => .ok (.d y) (e.set i (some (.lst ys)))
    | none => .stuck)
  | _ => .stuck
structure MtL0 (X : Cx) (id : String) (g : List D → Option (D × List D)) : Prop where
  run : ∃ r : V → List V → Hp → VK → Prop, MtR X id r ∧ ∀ (W : List Addr) (H : Hp) (l : Addr) (xs ys : List D) (y : D) (vs : List V) (Q : VK), WM W H → H l = some (.lst vs) → l ∈ W → RpL W X.K H xs vs → g xs = some (y, ys) →
    (∀ u us, Rp W X.K H y u → RpL W X.K H ys us → Q u (upd H l (.lst us))) → r (.ref l) [] H Q
theorem pm_mt0 {id : String} {m : Str} {g : List D → Option (D × List D)} (i : Nat) (ho : MtL0 X id g) (slot : Slot "list" m id) (hty : typeOf (.builtin id) = pure (.type "method_descriptor")) (hN : X.N[i]? = some x := by rfl) (hv : Vis X.env.scope x := by first | exact Or.inl rfl | exact Or.inr (Or.inl rfl) | exact Or.inr (Or.inr rfl))
    (hd : (x == ("__debug__" : Str)) = false := by decide) (hcd : (x == ("__classdict__" : Str)) = false := by decide)
    (hbase : attributeBase (.Name x px) m X.env (eval (.Name x px) X.env) = eval (.Name x px) X.env := by rfl) (hline : (apos.endLine == cpos.line) = true := by rfl) :
    PM X Wx (.Call (.Attribute (.Name x px) m apos) [] [] cpos) (chg0 i g) := by
  obtain ⟨rl, h1, h2⟩ := ho.run
  refine PM.of ⟨_, pe_bm0 F.plainAttrs_list slot hty h1 (pe_var hN hv hd hcd) hbase hline, fun W H σ e Q sr hc => ?_⟩
  unfold chg0 at hc
  split at hc
  rotate_left
  · exact hc.elim
  rename_i xs hx
  split at hc
  rotate_left
  · exact hc.elim
  rename_i y ys hg
  obtain ⟨l, vs, q1, q2, q3, q4⟩ := sr.hit hx
  refine ⟨_, q1, .inl ⟨rfl, vs, .of q3⟩, ?_⟩
  exact h2 W H l xs ys y vs Q sr.wm q3 q2 q4 hg fun u us ru rus => OutK.at (sr.setL hx q1 q2 rus) (Rp.mono (EX.ex (sr.setL hx q1 q2 rus).2 sr) y ru) hc
@[simp] def gPop (xs : List D) : Option (D × List D) := (xs[xs.length - 1]?).map fun y => (y, xs.dropLast)
theorem l_pop : MtL0 X "list.pop" gPop := by
  refine ⟨_, mt_pop, fun W H l xs ys y vs Q wm hl hw rx hg k => ?_⟩
  obtain ⟨z, e2, hg⟩ := Option.map_eq_some_iff.mp hg
  cases hg
  obtain ⟨u, e3, ru⟩ := rx.get e2
  refine ⟨l, vs, u, rfl, rfl, hl, by rw [← rx.length]; exact e3, k _ _ ru ?_⟩
  rw [List.dropLast_eq_take, List.dropLast_eq_take, ← rx.length]
  exact rx.take _
end

/-! ## statements -/
section
variable {W W' W1 : List Addr} {K : PySem.W.Frag} {mg : Str → Option Value} {Wx : WX} {lk : List Nat} {H H' H1 : Hp} {σ σ1 σ' : St} {e e1 e' : En} {Q : VK} {D0 : Ends}
theorem FlK.go (x : EX W H σ e W1 H1 σ1 e1) (hl : ∀ i ∈ lk, σ1[i]? = σ[i]?) : ∀ {fl : Fl}, FlK K mg Wx lk W H σ e D0 fl → FlK K mg Wx lk W1 H1 σ1 e1 D0 fl
  | .stuck, h => h
  | .nx e', h => fun W' H' σ' sr y l => h W' H' σ' sr (x.trans y) fun i hi => (l i hi).trans (hl i hi)
  | .bk e', h => fun W' H' σ' sr y l => h W' H' σ' sr (x.trans y) fun i hi => (l i hi).trans (hl i hi)
  | .ct e', h => fun W' H' σ' sr y l => h W' H' σ' sr (x.trans y) fun i hi => (l i hi).trans (hl i hi)
  | .rt s e', h => fun v W' H' σ' sr y l r o => h v W' H' σ' sr (x.trans y) (fun i hi => (l i hi).trans (hl i hi)) r fun so a ea => ⟨(o so a ea).1, (o so a ea).2.elim (x.sub a) fun z => .inr (x.dom a z)⟩
  | .ex z e', h => fun c d W' H' σ' sr y l r => h c d W' H' σ' sr (x.trans y) (fun i hi => (l i hi).trans (hl i hi)) r
@[simp] def Fl.seq (fl : Fl) (f : FS) : Fl := match fl with
  | .nx e => f e
  | o => o
@[simp] def sSeq (f g : FS) : FS := fun e => (f e).seq g
@[simp] def sNil : FS := fun e => .nx e
/-- out of an expression -/
@[simp] def Out.st (o : Out) (f : S → FS) : Fl := match o with
  | .stuck => .stuck
  | .ok s e => f s e
  | .ex x e => .ex x e
end
section
variable {X : Cx} {Wx : WX} {lk : List Nat} {a b c : Expr} {fa fb : FM} {stm : Stmt} {rest sts sts2 : List Stmt} {f g : FS} {pos : Pos}
theorem sds_nil : SDs X Wx lk [] sNil := SDs.of ⟨_, pss_nil, fun W H σ e D sr h => h W H σ sr .refl fun _ _ => rfl⟩
theorem sds_cons (h1 : SD X Wx lk stm f) (h2 : SDs X Wx lk rest g) : SDs X Wx lk (stm :: rest) (sSeq f g) := by
  obtain ⟨t, p, k⟩ := h1.run
  obtain ⟨u, p', k'⟩ := h2.run
  refine SDs.of ⟨_, pss_cons p p', fun W H σ e D sr h => k W H σ e _ sr ?_⟩
  unfold sSeq at h
  revert h
  generalize f e = fl
  intro h
  cases fl with
  | nx e1 => exact fun W1 H1 σ1 sr1 x l => k' W1 H1 σ1 e1 D sr1 (FlK.go x l h)
  | _ => exact h
theorem sds_one (h1 : SD X Wx lk stm f) : SDs X Wx lk [stm] f := by
  obtain ⟨t, p, k⟩ := h1.run
  exact SDs.of ⟨_, pss_one p, k⟩
@[simp] def sStuck : FS := fun _ => .stuck
theorem sd_never : SD X Wx lk stm sStuck := SD.of ⟨_, ps_never, fun W H σ e D sr h => h⟩
theorem sd_pass : SD X Wx lk (.Pass pos) sNil := SD.of ⟨_, ps_pass, fun W H σ e D sr h => h W H σ sr .refl fun _ _ => rfl⟩
@[simp] def sBreak : FS := fun e => .bk e
@[simp] def sCont : FS := fun e => .ct e
theorem sd_break : SD X Wx lk (.Break pos) sBreak := SD.of ⟨_, ps_break, fun W H σ e D sr h => h W H σ sr .refl fun _ _ => rfl⟩
theorem sd_cont : SD X Wx lk (.Continue pos) sCont := SD.of ⟨_, ps_continue, fun W H σ e D sr h => h W H σ sr .refl fun _ _ => rfl⟩
/-- through an expression: frozen -/
theorem DK.st {W : List Addr} {H : Hp} {σ : St} {e : En} {D0 : Ends} {Q0 : VK} {o : Out} {f : S → FS} (wm : WM W H) (h : FlK X.K X.mg Wx lk W H σ e D0 (o.st f))
    (k : ∀ s v e1 W1 H1, SR W1 X.K H1 σ e1 → EX W H σ e W1 H1 σ e1 → Rp W1 X.K H1 s.view v → FlK X.K X.mg Wx lk W1 H1 σ e1 D0 (f s e1) → Q0 v H1) : OutK X.K X.mg Wx W H σ e Q0 o :=
  DK.out wm (match o with
    | .stuck => h
    | .ex z e' => fun c d W' H' sr x r => h c d W' H' σ sr x (fun _ _ => rfl) r
    | .ok s e1 => fun v W1 H1 sr1 x r => k s v e1 W1 H1 sr1 x r (FlK.go (fl := f s e1) x (fun _ _ => rfl) h))
/-- .. as it is -/
theorem OutK.st {W : List Addr} {H : Hp} {σ : St} {e : En} {D0 : Ends} {Q0 : VK} {o : Out} {f : S → FS} (h : FlK X.K X.mg Wx lk W H σ e D0 (o.st f))
    (k : ∀ s v e1 W1 H1, SR W1 X.K H1 σ e1 → EX W H σ e W1 H1 σ e1 → RS W1 X.K H1 s v → (s.own = true → ∀ a, v = .ref a → H a = none ∧ ¬ Ow σ e1 a) → FlK X.K X.mg Wx lk W H σ e D0 (f s e1) → Q0 v H1) : OutK X.K X.mg Wx W H σ e Q0 o :=
  match o with
    | .stuck => h
    | .ex z e' => fun c d W' H' sr x r => h c d W' H' σ sr x (fun _ _ => rfl) r
    | .ok s e1 => fun v W1 H1 sr1 x r fr => k s v e1 W1 H1 sr1 x r fr h
@[simp] def sExpr (fa : FM) : FS := fun e => (fa e).st fun _ e1 => .nx e1
theorem sd_expr (ha : PM X Wx a fa) (hs : swapsWith a none pos.line X.env = pure false := by rfl) : SD X Wx lk (.Expr a pos) (sExpr fa) := by
  obtain ⟨t, p, k⟩ := ha.run
  exact SD.of ⟨_, ps_expr p hs, fun W H σ e D sr h => k W H σ e _ sr (DK.st sr.wm h fun s v e1 W1 H1 sr1 x r h1 => h1 W1 H1 σ sr1 .refl fun _ _ => rfl)⟩
theorem sd_doc {x j pos'} : SD X Wx lk (.Expr (.Constant (.str x) j pos) pos') sNil := SD.of ⟨_, ps_doc, fun W H σ e D sr h => h W H σ sr .refl fun _ _ => rfl⟩
/-! ### name = .. -/
theorem setD_st {W : List Addr} {H : Hp} {σ : St} {e : En} {D0 : Ends} {i : Nat} {d : D} {v : V} (hlk : i ∉ lk) (hi : i < e.length) (sr : SR W X.K H σ e) (r : Rp W X.K H d v) (h : FlK X.K X.mg Wx lk W H σ e D0 (.nx (e.set i (some (.d d))))) : D0.nx (σ.set i (some v)) H := by
  have hσ : i < σ.length := by rw [← sr.len]; exact hi
  refine h W H _ (sr.setD hσ r) ⟨fun _ _ q _ => q, fun _ _ _ n => n, fun a q n => ⟨q, fun z => n (z.setD hi)⟩, fun a z => .inl (z.setD hi), fun _ q => q⟩ fun j hj => List.getElem?_set_ne fun (z : i = j) => hlk (by rw [z]; exact hj)
/-- the name gets frozen data -/
@[simp] def put (i : Nat) (d : D) (e : En) : Fl := if i < e.length then .nx (e.set i (some (.d d))) else .stuck
@[simp] def sSet (i : Nat) (fa : FM) : FS := fun e => (fa e).st fun s e1 => put i s.view e1
theorem put_st {W : List Addr} {H : Hp} {σ : St} {e : En} {D0 : Ends} {i : Nat} {d : D} {v : V} (hlk : i ∉ lk) (sr : SR W X.K H σ e) (r : Rp W X.K H d v) (h : FlK X.K X.mg Wx lk W H σ e D0 (put i d e)) : D0.nx (σ.set i (some v)) H := by
  unfold put at h
  split at h
  · rename_i hi
    exact setD_st hlk hi sr r h
  · exact h.elim
theorem sd_set (i : Nat) {x : Str} {px : Pos} (ha : PM X Wx a fa) (hN : X.N.Nodup) (hlk : i ∉ lk := by decide) (hi : X.N[i]? = some x := by rfl) (hx : Loc X.env.scope x := by first | exact Or.inl rfl | exact Or.inr rfl) (hs : swapsWith a (some (.Name x px)) pos.line X.env = pure false := by rfl)
    (hf : X.fn x = true ∨ X.env.scope.names.lookup x = some .local := by first | exact .inl rfl | exact .inr rfl | assumption) : SD X Wx lk (.Assign [.Name x px] a pos) (sSet i fa) := by
  obtain ⟨t, p, k⟩ := ha.run
  exact SD.of ⟨_, ps_set hN hi hx p hs hf, fun W H σ e D sr h => k W H σ e _ sr (DK.st sr.wm h fun s v e1 W1 H1 sr1 x1 r h1 => put_st hlk sr1 r h1)⟩
/-- the name gets the new list for itself -/
@[simp] def putO (i : Nat) (s : S) (e : En) : Fl := if i < e.length then .nx (e.set i (some s)) else .stuck
@[simp] def sSetO (i : Nat) (fa : FM) : FS := fun e => (fa e).st (putO i)
theorem store_own {W W1 : List Addr} {H H1 : Hp} {σ0 σ : St} {e e1 : En} {K : PySem.W.Frag} {i : Nat} {s : S} {v : V} (wm : WM W H) (sr : SR W1 K H1 σ e1) (x : EX W H σ0 e W1 H1 σ e1) (r : RS W1 K H1 s v) (fr : s.own = true → ∀ a, v = .ref a → H a = none ∧ ¬ Ow σ e1 a) (hi : i < e1.length) :
    SR W1 K H1 (σ.set i (some v)) (e1.set i (some s)) ∧ EX W H σ0 e W1 H1 (σ.set i (some v)) (e1.set i (some s)) := by
  have hσ : i < σ.length := by rw [← sr.len]; exact hi
  cases s with
  | d y => exact ⟨sr.setD hσ r, x.trans ⟨fun _ _ q _ => q, fun _ _ _ n => n, fun a q n => ⟨q, fun z => n (z.setD hi)⟩, fun a z => .inl (z.setD hi), fun _ q => q⟩⟩
  | lst ys =>
    obtain ⟨a, us, rfl, q1, q2, q3⟩ := r
    obtain ⟨f1, f2⟩ := fr rfl a rfl
    have back : ∀ {j : Nat} {t : S} {b : Addr}, (e1.set i (some (S.lst ys)))[j]? = some (some t) → (σ.set i (some (V.ref a)))[j]? = some (some (.ref b)) → (i = j ∧ b = a) ∨ (i ≠ j ∧ e1[j]? = some (some t) ∧ σ[j]? = some (some (.ref b))) := by
      intro j t b q p
      by_cases z : i = j
      · subst z
        rw [List.getElem?_set_self hσ] at p
        cases p
        exact .inl ⟨rfl, rfl⟩
      · rw [List.getElem?_set_ne z] at q p
        exact .inr ⟨z, q, p⟩
    refine ⟨⟨sr.wm, by rw [List.length_set, List.length_set, sr.len], fun j t q => ?_, fun j k t t' b p1 p2 o1 o2 w1 w2 => ?_⟩, ⟨x.keep, x.frz, fun b hb n => ?_, fun b hb => ?_, x.dom⟩⟩
    · by_cases z : i = j
      · subst z
        rw [List.getElem?_set_self hi] at q
        cases q
        exact ⟨_, List.getElem?_set_self hσ, a, us, rfl, q1, q2, q3⟩
      · rw [List.getElem?_set_ne z] at q
        obtain ⟨v, h1, h2⟩ := sr.sl j t q
        exact ⟨v, by rw [List.getElem?_set_ne z]; exact h1, h2⟩
    · rcases back p1 w1 with ⟨rfl, rfl⟩ | ⟨z1, y1, y2⟩
      · rcases back p2 w2 with ⟨rfl, _⟩ | ⟨z2, y3, y4⟩
        · rfl
        · exact absurd ⟨k, t', y3, o2, y4⟩ f2
      · rcases back p2 w2 with ⟨rfl, rfl⟩ | ⟨z2, y3, y4⟩
        · exact absurd ⟨j, t, y1, o1, y2⟩ f2
        · exact sr.one j k t t' b y1 y3 o1 o2 y2 y4
    · obtain ⟨m1, m2⟩ := x.tmp b hb n
      refine ⟨m1, ?_⟩
      rintro ⟨j, t, w1, w2, w3⟩
      rcases back w1 w3 with ⟨rfl, rfl⟩ | ⟨_, y1, y2⟩
      · exact absurd f1 (isSome_of_mut (wm b hb))
      · exact m2 ⟨j, t, y1, w2, y2⟩
    · obtain ⟨j, t, w1, w2, w3⟩ := hb
      rcases back w1 w3 with ⟨rfl, rfl⟩ | ⟨_, y1, y2⟩
      · exact .inr f1
      · exact x.sub b ⟨j, t, y1, w2, y2⟩
theorem putO_st {W W1 : List Addr} {H H1 : Hp} {σ : St} {e e1 : En} {D0 : Ends} {i : Nat} {s : S} {v : V} (hlk : i ∉ lk) (wm : WM W H) (sr : SR W1 X.K H1 σ e1) (x : EX W H σ e W1 H1 σ e1) (r : RS W1 X.K H1 s v) (fr : s.own = true → ∀ a, v = .ref a → H a = none ∧ ¬ Ow σ e1 a)
    (h : FlK X.K X.mg Wx lk W H σ e D0 (putO i s e1)) : D0.nx (σ.set i (some v)) H1 := by
  unfold putO at h
  split at h
  rotate_left
  · exact h.elim
  rename_i hi
  obtain ⟨s2, x2⟩ := store_own wm sr x r fr hi
  exact h W1 H1 _ s2 x2 fun j hj => List.getElem?_set_ne fun (z : i = j) => hlk (by rw [z]; exact hj)
end
end DL

set_option maxHeartbeats 2000000
namespace DL
open PySem PySem.Spec PyProof.Rows L2

section
variable {W W' W1 W2 : List Addr} {K : PySem.W.Frag} {H H' H1 H2 : Hp} {σ σ1 σ' : St} {e e1 e' : En}
theorem Ex.trans (x : Ex W H W1 H1) (y : Ex W1 H1 W2 H2) : Ex W H W2 H2 := ⟨x.wm, fun a o h n => let q := x.keep a o h n; y.keep a o q.1 q.2⟩
/-- fewer are owned by name -/
theorem EX.shrink (s : ∀ a, Ow σ' e' a → Ow σ e a) : EX W H σ e W H σ' e' := ⟨fun _ _ h _ => h, fun _ _ _ n => n, fun a h n => ⟨h, fun z => n (s a z)⟩, fun a z => .inl (s a z), fun _ h => h⟩
theorem EX.updNew {a : Addr} {o : HO} (x : EX W H σ e W' H' σ' e') (n : H a = none) : EX W H σ e W' (upd H' a o) σ' e' :=
  ⟨fun b u h m => by rw [upd_ne (ne_of_none h n)]; exact x.keep b u h m, x.frz, x.tmp, x.sub, fun b h => by
    by_cases z : b = a
    · rw [z]; exact n
    · rw [upd_ne z] at h; exact x.dom b h⟩
/-- a list that no name owns gets other contents -/
theorem SR.updT {a : Addr} {us : List V} (r : SR W K H σ e) (hw : a ∈ W) (n : ¬ Ow σ e a) : SR W K (upd H a (.lst us)) σ e where
  wm := fun b h => by
    by_cases z : b = a
    · rw [z, upd_same]; trivial
    · rw [upd_ne z]; exact r.wm b h
  len := r.len
  sl := fun i s h => by
    have x : Ex W H W (upd H a (.lst us)) := ⟨r.wm, fun b o q m => ⟨by rw [upd_ne fun (z : b = a) => m (by rw [z]; exact hw)]; exact q, m⟩⟩
    obtain ⟨v, h1, h2⟩ := r.sl i s h
    refine ⟨v, h1, ?_⟩
    cases s with
    | d y => exact Rp.mono x y h2
    | lst ys =>
      obtain ⟨b, vs, rfl, q1, q2, q3⟩ := h2
      refine ⟨b, vs, rfl, q1, ?_, RpL.mono x ys q3⟩
      rw [upd_ne fun (z : b = a) => n ⟨i, _, h, rfl, by rw [h1, z]⟩]
      exact q2
  one := r.one
theorem Ow.wipe {vs : List Nat} {a : Addr} (o : Ow (L2.wipe σ vs) (wipeE e vs) a) : Ow σ e a := by
  obtain ⟨i, s, h1, h2, h3⟩ := o
  obtain ⟨q, n⟩ := wipeE_in h1
  rw [wipe_stay n] at h3
  exact ⟨i, s, q, h2, h3⟩
/-- behind a block: its names' slots stand as ahead -/
def unw (vs : List Nat) (e e' : En) : En := e'.mapIdx fun j o => if vs.contains j = true then (e[j]?).join else o
theorem unw_at {vs : List Nat} {e e' : En} {j : Nat} {s : S} (h : (unw vs e e')[j]? = some (some s)) : (j ∈ vs ∧ e[j]? = some (some s)) ∨ (j ∉ vs ∧ e'[j]? = some (some s)) := by
  unfold unw at h
  rw [List.getElem?_mapIdx] at h
  obtain ⟨o, h1, h2⟩ := Option.map_eq_some_iff.mp h
  split at h2
  · rename_i c
    refine .inl ⟨by simpa using c, ?_⟩
    cases q : e[j]? with
    | none => rw [q] at h2; cases h2
    | some u => rw [q] at h2; rw [show u = some s from h2]
  · rename_i c
    exact .inr ⟨by simpa using c, by rw [h1, h2]⟩
theorem unw_ok {vs : List Nat} {We : List Addr} {He : Hp} (r : SR W K H σ e) (g : Grow W H W1 H1) (rw1 : SR W1 K H1 (L2.wipe σ vs) (wipeE e vs)) (rE : SR We K He (L2.wipe σ vs) e') (x : EX W1 H1 (L2.wipe σ vs) (wipeE e vs) We He (L2.wipe σ vs) e') :
    SR We K He σ (unw vs e e') ∧ EX W H σ e We He σ (unw vs e e') ∧ ∀ a, Ow σ (unw vs e e') a → Ow σ e a ∨ Ow (L2.wipe σ vs) e' a := by
  have ex : Ex W H We He := (g.ex r.wm).trans (x.ex rw1)
  have up : ∀ {j : Nat} {s : S} {a : Addr}, j ∉ vs → e'[j]? = some (some s) → s.own = true → σ[j]? = some (some (.ref a)) → Ow (L2.wipe σ vs) e' a := fun {j s a} n h o p => ⟨j, s, h, o, by rw [wipe_stay n]; exact p⟩
  have spl : ∀ a, Ow σ (unw vs e e') a → Ow σ e a ∨ Ow (L2.wipe σ vs) e' a := by
    rintro a ⟨j, s, h1, h2, h3⟩
    rcases unw_at h1 with ⟨_, q⟩ | ⟨n, q⟩
    · exact .inl ⟨j, s, q, h2, h3⟩
    · exact .inr (up n q h2 h3)
  -- an address held by a name of the block's
  have nb : ∀ {j : Nat} {s : S} {a : Addr}, j ∈ vs → e[j]? = some (some s) → s.own = true → σ[j]? = some (some (.ref a)) → ¬ Ow (L2.wipe σ vs) (wipeE e vs) a := by
    rintro j s a hj h o p ⟨k, t, q1, q2, q3⟩
    obtain ⟨w1, w2⟩ := wipeE_in q1
    rw [wipe_stay w2] at q3
    have := r.one j k s t a h w1 o q2 p q3
    subst this
    exact w2 hj
  have nb2 : ∀ {j : Nat} {s : S} {a : Addr}, j ∈ vs → e[j]? = some (some s) → s.own = true → σ[j]? = some (some (.ref a)) → ¬ Ow (L2.wipe σ vs) e' a := by
    intro j s a hj h o p z
    rcases x.sub a z with w | w
    · exact nb hj h o p w
    · obtain ⟨ys, es⟩ := own_lst o
      obtain ⟨b, us, q1, q2, q3, _⟩ := r.hit (xs := ys) (by rw [h, es])
      rw [p] at q1
      cases q1
      rw [g.keep _ _ q3] at w
      cases w
  refine ⟨⟨rE.wm, ?_, fun j s h => ?_, fun j k s t a h1 h2 o1 o2 p1 p2 => ?_⟩, ⟨fun a o h n => x.keep a o (g.keep a o h) fun z => n z.wipe, fun a o h n => (ex.keep a o h n).2, fun a h n => ?_, fun a h => ?_, fun a h => g.fresh (x.dom a h)⟩, spl⟩
  · unfold unw
    rw [List.length_mapIdx, rE.len, wipe_length]
  · rcases unw_at h with ⟨hj, q⟩ | ⟨n, q⟩
    · obtain ⟨v, h1, h2⟩ := r.sl j s q
      refine ⟨v, h1, ?_⟩
      cases s with
      | d y => exact Rp.mono ex y h2
      | lst ys =>
        obtain ⟨a, us, rfl, p1, p2, p3⟩ := h2
        have na := nb hj q rfl h1
        exact ⟨a, us, rfl, (x.tmp a (g.sub a p1) na).1, x.keep a _ (g.keep a _ p2) na, RpL.mono ex ys p3⟩
    · obtain ⟨v, h1, h2⟩ := rE.sl j s q
      rw [wipe_stay n] at h1
      exact ⟨v, h1, h2⟩
  · rcases unw_at h1 with ⟨hj, q⟩ | ⟨n, q⟩
    · rcases unw_at h2 with ⟨hk, q'⟩ | ⟨n', q'⟩
      · exact r.one j k s t a q q' o1 o2 p1 p2
      · exact absurd (up n' q' o2 p2) (nb2 hj q o1 p1)
    · rcases unw_at h2 with ⟨hk, q'⟩ | ⟨n', q'⟩
      · exact absurd (up n q o1 p1) (nb2 hk q' o2 p2)
      · exact rE.one j k s t a q q' o1 o2 (by rw [wipe_stay n]; exact p1) (by rw [wipe_stay n']; exact p2)
  · obtain ⟨h1, h2⟩ := x.tmp a (g.sub a h) fun z => n z.wipe
    exact ⟨h1, fun z => (spl a z).elim n h2⟩
  · rcases spl a h with z | z
    · exact .inl z
    · rcases x.sub a z with w | w
      · exact .inl w.wipe
      · exact .inr (g.fresh w)
end

/-! ## list comprehensions whose parts have effects -/
def noW : WX := fun _ _ _ _ => False
@[simp] def lcM (bind : FG) (ft : FT) (fe : FM) (vs : List Nat) : List D → En → OL
  | [], e => .ok [] e
  | d :: ds, e => match bind d e with
    | none => .stuck
    | some e1 => match ft e1 with
      | none => .stuck
      | some b => if b = true then (match fe e1 with
        | .ok s e2 => OL.cons s.view (lcM bind ft fe vs ds (wipeE e2 vs))
        | _ => .stuck) else lcM bind ft fe vs ds (wipeE e1 vs)
@[simp] def mLc (vs : List Nat) (fi : FI) (bind : FG) (ft : FT) (fe : FM) : FM := fun e => match fi e with
  | some (ds, true) => (match lcM bind ft fe vs ds (wipeE e vs) with
    | .ok xs e' => if xs.length ≤ SZ then .ok (.lst xs) (unw vs e e') else .stuck
    | _ => .stuck)
  | _ => .stuck
structure LmAt (K : PySem.W.Frag) (W' : List Addr) (H1 : Hp) (D0 : Addr) (bind : FG) (ft : FT) (fe : FM) (vs : List Nat) (σw : St) (ew : En) (ds xs : List D) (eE : En) (i : Nat) (H : Hp) (W2 : List Addr) (e2 : En) (dn rest : List D) (acc : List V) : Prop where
  sr : SR W2 K H σw e2
  x : EX W' H1 σw ew W2 H σw e2
  dm : D0 ∈ W2
  no : ¬ Ow σw e2 D0
  at_ : H D0 = some (.lst acc)
  rp : RpL W2 K H dn acc
  todo : lcM bind ft fe vs (ds.drop i) e2 = .ok rest eE
  all : dn ++ rest = xs
theorem lm_read {K : PySem.W.Frag} {mg : Str → Option Value} {W W' : List Addr} {H H1 : Hp} {σ : St} {e eE : En} {J : It} {ds xs : List D} {vs : List Nat} {bind : FG} {ft : FT} {fe : FM} {Q : VK} {D0 : Addr} (sr : SR W K H σ e) (g1 : Grow W H W' H1) (hn : H1 D0 = none)
    (it : ∀ W2 H2, Ex W' H1 W2 H2 → WM W2 H2 → ItAt W2 K H2 J ds) (hx : lcM bind ft fe vs ds (wipeE e vs) = .ok xs eE) (hz : xs.length ≤ SZ)
    (k : ∀ W2 H2 acc, SR W2 K H2 (wipe σ vs) eE → EX W' H1 (wipe σ vs) (wipeE e vs) W2 H2 (wipe σ vs) eE → D0 ∈ W2 → ¬ Ow (wipe σ vs) eE D0 → H2 D0 = some (.lst acc) → RpL W2 K H2 xs acc → Q (.ref D0) H2) :
    ∃ Wi : Nat → Nat → Hp → Prop, (∃ m, Wi 0 m (upd H1 D0 (.lst []))) ∧ ∀ i m H, Wi i m H →
      (J.stop i H ∧ Q (.ref D0) H) ∨ (J.go i H ∧ ∃ Nx : Hp → Prop, (∀ H', Nx H' → ∃ m', m' < m ∧ Wi (i + 1) m' H') ∧ ∀ x H', J.yld i H x H' → tG K vs bind x (wipe σ vs) H' fun σ2 H2 => wipe σ2 vs = wipe σ vs ∧ tT K ft σ2 H2 fun b H3 =>
        if b = true then tM K mg noW fe σ2 H3 fun y H4 => ∃ acc, H4 D0 = some (.lst acc) ∧ acc.length < sizeLine ∧ Nx (upd H4 D0 (.lst (acc ++ [y]))) else Nx H3) := by
  have srw : SR W' K H1 (wipe σ vs) (wipeE e vs) := g1.sr (sr.wipe vs)
  have g0 : Grow W' H1 (D0 :: W') (upd H1 D0 (.lst [])) := .lst g1.wm hn
  refine ⟨fun i m H => m = ds.length - i ∧ i ≤ ds.length ∧ ∃ W2 e2 dn rest acc, LmAt K W' H1 D0 bind ft fe vs (wipe σ vs) (wipeE e vs) ds xs eE i H W2 e2 dn rest acc, ⟨ds.length, rfl, Nat.zero_le _, D0 :: W', wipeE e vs, [], xs, [], ?_⟩, ?_⟩
  · exact ⟨g0.sr srw, g0.fx srw, List.mem_cons_self, fun z => srw.thr (srw.ow z) hn, upd_same, rfl, hx, rfl⟩
  · rintro i m H2 ⟨rfl, hi, W2, e2, dn, rest, acc, L⟩
    have I2 := it W2 H2 (L.x.ex srw) L.sr.wm
    by_cases hlt : i < ds.length
    · refine .inr ?_
      obtain ⟨d, hd⟩ : ∃ d, ds[i]? = some d := ⟨ds[i], List.getElem?_eq_getElem hlt⟩
      obtain ⟨hgo, hy⟩ := I2.1 i d hd
      refine ⟨hgo, fun H' => ∃ W2 e2 dn rest acc, LmAt K W' H1 D0 bind ft fe vs (wipe σ vs) (wipeE e vs) ds xs eE (i + 1) H' W2 e2 dn rest acc, fun H' q => ⟨ds.length - (i + 1), by omega, rfl, hlt, q⟩, fun x H3 y => ?_⟩
      obtain ⟨kp, rp⟩ := hy x H3 y
      have todo := L.todo
      have ed : ds.drop i = d :: ds.drop (i + 1) := by
        rw [List.drop_eq_getElem_cons hlt]
        rw [List.getElem?_eq_getElem hlt] at hd
        cases hd
        rfl
      rw [ed] at todo
      unfold lcM at todo
      split at todo
      · cases todo
      rename_i e1 he1
      split at todo
      · cases todo
      rename_i b hb
      have g3 : Grow W2 H2 W2 H3 := .of L.sr.wm kp
      refine ⟨W2, e2, d, e1, g3.sr L.sr, rp, he1, fun σ1 sr1 l1 a1 o1 => ?_⟩
      have ew := wipe_same (l1.trans (wipe_length σ vs)) a1
      refine ⟨ew, W2, e1, b, sr1, hb, fun W4 H4 g4 => ?_⟩
      have x3 : EX W' H1 (wipe σ vs) (wipeE e vs) W4 H4 σ1 e1 := ((L.x.trans (g3.fx L.sr)).trans (EX.shrink o1)).trans (g4.fx sr1)
      have sr4 := g4.sr sr1
      have g34 := g3.trans g4
      have dm4 := g34.sub _ L.dm
      have no4 : ¬ Ow σ1 e1 D0 := fun z => L.no (o1 _ z)
      have at4 := g34.keep _ _ L.at_
      have rp4 := RpL.mono (g34.ex L.sr.wm) _ L.rp
      cases b with
      | false =>
        refine iteF ⟨W4, wipeE e1 vs, dn, rest, acc, ⟨by rw [← ew]; exact sr4.wipe vs, ?_, dm4, fun z => no4 (by rw [← ew] at z; exact z.wipe), at4, rp4, todo, L.all⟩⟩
        exact x3.trans (EX.shrink fun a z => by rw [← ew] at z; exact z.wipe)
      | true =>
        refine iteT ?_
        have todo : (match fe e1 with | .ok s e2 => OL.cons s.view (lcM bind ft fe vs (ds.drop (i + 1)) (wipeE e2 vs)) | _ => OL.stuck) = .ok rest eE := todo
        split at todo
        rotate_left
        · cases todo
        rename_i s e5 hfe
        refine ⟨W4, e1, sr4, ?_⟩
        rw [hfe]
        refine DK.out sr4.wm fun yv W5 H5 sr5 x5 ry => ?_
        have dm5 := x5.tmp _ dm4 no4
        have at5 := x5.keep _ _ at4 no4
        have rp5 := RpL.mono (x5.ex sr4) _ rp4
        cases ho : lcM bind ft fe vs (ds.drop (i + 1)) (wipeE e5 vs) with
        | stuck => rw [ho] at todo; cases todo
        | ex x e => rw [ho] at todo; cases todo
        | ok rest' eE' =>
          rw [ho] at todo
          cases todo
          have no6 : ¬ Ow (wipe σ vs) (wipeE e5 vs) D0 := fun z => dm5.2 (by rw [← ew] at z; exact z.wipe)
          have sr6 : SR W5 K H5 (wipe σ vs) (wipeE e5 vs) := by rw [← ew]; exact sr5.wipe vs
          have x6 : EX W' H1 (wipe σ vs) (wipeE e vs) W5 H5 (wipe σ vs) (wipeE e5 vs) := (x3.trans x5).trans (EX.shrink fun a z => by rw [← ew] at z; exact z.wipe)
          have exu : Ex W5 H5 W5 (upd H5 D0 (.lst (acc ++ [yv]))) := ⟨sr5.wm, fun a o h n => ⟨by rw [upd_ne fun (q : a = D0) => n (by rw [q]; exact dm5.1)]; exact h, n⟩⟩
          refine ⟨acc, at5, ?_, W5, wipeE e5 vs, dn ++ [s.view], rest', acc ++ [yv], ⟨sr6.updT dm5.1 no6, x6.updNew hn, dm5.1, no6, upd_same, RpL.mono exu _ (rp5.append (.one ry)), ho, by rw [List.append_assoc]; exact L.all⟩⟩
          have q := congrArg List.length L.all
          rw [List.length_append, List.length_cons] at q
          have q3 := L.rp.length
          rw [SZ_eq]
          omega
    · have ei : i = ds.length := by omega
      subst ei
      refine .inl ⟨I2.2, ?_⟩
      have todo := L.todo
      rw [List.drop_length] at todo
      cases todo
      have ea := L.all
      rw [List.append_nil] at ea
      subst ea
      exact k W2 H2 acc L.sr L.x L.dm L.no L.at_ L.rp
section
variable {X : Cx} {Wx : WX}
theorem lm_fin {vs : List Nat} {fi : FI} {bind : FG} {ft : FT} {fe : FM} {W : List Addr} {H : Hp} {σ : St} {e : En} {Q : VK} (sr : SR W X.K H σ e) (h : OutK X.K X.mg Wx W H σ e Q (mLc vs fi bind ft fe e)) :
    tLc (tI X.K fi) (tG X.K vs bind) (tT X.K ft) (tM X.K X.mg noW fe) vs σ H Q := by
  unfold mLc at h
  split at h
  rotate_left
  · exact h.elim
  rename_i ds hi
  split at h
  rotate_left
  · exact h.elim
  rename_i xs eE hl
  split at h
  rotate_left
  · exact h.elim
  rename_i hz
  refine ⟨W, e, ds, true, sr, hi, fun J W' H1 g1 it D0 hn => lm_read sr g1 hn (fun W2 H2 x wm => it W2 H2 (.inr ⟨rfl, x, wm⟩)) hl hz fun W2 H2 acc s2 x2 dm no at_ rp => ?_⟩
  obtain ⟨s3, x3, ow⟩ := unw_ok sr g1 (g1.sr (sr.wipe vs)) s2 x2
  refine h _ W2 H2 s3 x3 ⟨D0, acc, rfl, dm, at_, rp⟩ fun _ a ea => ?_
  cases ea
  exact ⟨g1.fresh hn, fun z => (ow _ z).elim (fun w => sr.thr (sr.ow w) (g1.fresh hn)) no⟩
theorem pm_lc {elt tg iter : Expr} {ifs : List Expr} {scope : Scope} {own : List (Str × Nat)} {pos : Pos} {fi : FI} {bind : FG} {ft : FT} {fe : FM} (hc : X.calm = true) (hN : X.N.Nodup) (hi : IP X tg iter fi) (ok : BlkOk X.N X.env.scope scope own)
    (hg : ∀ (s : Shared) (H : Hp) (C : Addr) (cl : List (Str × Addr)) (fp : List Addr), GP (X.blk s H scope (compEnvC scope cl C X.env) fp) tg (own.map (·.2)) bind)
    (ht : ∀ (s : Shared) (H : Hp) (C : Addr) (cl : List (Str × Addr)) (fp : List Addr), TPs (X.blk s H scope (compEnvC scope cl C X.env) fp) ifs ft)
    (he : ∀ (s : Shared) (H : Hp) (C : Addr) (cl : List (Str × Addr)) (fp : List Addr), PM (X.blk s H scope (compEnvC scope cl C X.env) fp) noW elt fe)
    (hs : ∀ x, foldedSetIterable iter X.env x = pure x := by intro _; rfl) : PM X Wx (.ListComp elt [⟨tg, iter, ifs, 0⟩] scope pos) (mLc (own.map (·.2)) fi bind ft fe) :=
  PM.of ⟨_, pe_lc (g := tG X.K (own.map (·.2)) bind) (tt := tT X.K ft) (te := tM X.K X.mg noW fe) hc hN hi.pi ok (fun s H C cl fp => (hg s H C cl fp).pg) (fun s H C cl fp => (ht s H C cl fp).pts) (fun s H C cl fp => (he s H C cl fp).pe) hs, fun W H σ e Q sr h => lm_fin sr h⟩
/-- name = [..] on one line -/
theorem sd_setLc {lk : List Nat} (i : Nat) {y : Str} {py : Pos} {elt tg iter : Expr} {ifs : List Expr} {scope : Scope} {own : List (Str × Nat)} {pos spos : Pos} {fi : FI} {bind : FG} {ft : FT} {fe : FP} (hc : X.calm = true) (hN : X.N.Nodup)
    (hsw : swapsWith (.ListComp elt [⟨tg, iter, ifs, 0⟩] scope pos) (some (.Name y py)) spos.line X.env = pure true) (hi : IP X tg iter fi) (ok : BlkOk X.N X.env.scope scope own)
    (hg : ∀ (s : Shared) (H : Hp) (C : Addr) (cl : List (Str × Addr)) (fp : List Addr), GP (X.blk s H scope (compEnvC scope cl C X.env) fp) tg (own.map (·.2)) bind)
    (ht : ∀ (s : Shared) (H : Hp) (C : Addr) (cl : List (Str × Addr)) (fp : List Addr), TPs (X.blk s H scope (compEnvC scope cl C X.env) fp) ifs ft)
    (he : ∀ (s : Shared) (H : Hp) (C : Addr) (cl : List (Str × Addr)) (fp : List Addr), PP (X.blk s H scope (compEnvC scope cl C X.env) fp) elt fe)
    (hlk : i ∉ lk := by decide) (hy : X.N[i]? = some y := by rfl) (hyl : X.env.scope.names.lookup y = some .local := by rfl)
    (hs : ∀ x, foldedSetIterable iter X.env x = pure x := by intro _; rfl) : SD X Wx lk (.Assign [.Name y py] (.ListComp elt [⟨tg, iter, ifs, 0⟩] scope pos) spos) (sSet i (mPP (pLc (own.map (·.2)) fi bind ft fe))) := by
  refine SD.of ⟨_, ps_setLc (g := tG X.K (own.map (·.2)) bind) (tt := tT X.K ft) (te := tP X.K fe) hc hN hy hyl hsw hi.pi ok (fun s H C cl fp => (hg s H C cl fp).pg) (fun s H C cl fp => (ht s H C cl fp).pts) (fun s H C cl fp => (he s H C cl fp).pe) hs, fun W H σ e D sr h => ?_⟩
  have h2 := DK.st (Q0 := fun v H' => D.nx (σ.set i (some v)) H') sr.wm h fun s v e1 W1 H1 sr1 x1 r h1 => put_st hlk sr1 r h1
  obtain ⟨r, er, kq⟩ := OutK.rvo sr h2
  obtain ⟨⟨ds, bb⟩, e1, hf⟩ := Option.bind_eq_some_iff.mp er
  obtain ⟨xs, e2, hf⟩ := Option.bind_eq_some_iff.mp hf
  split at hf
  · rename_i hz
    cases hf
    exact ⟨W, e, ds, bb, sr, e1, fun J W' H1 g1 it D0 hn => lc_read (Q := fun v H' => D.nx (σ.set i (some v)) H') sr g1 hn (fun W2 H2 g => it W2 H2 (.inl g)) e2 hz kq⟩
  · cases hf
theorem sd_setLm {lk : List Nat} (i : Nat) {y : Str} {py : Pos} {elt tg iter : Expr} {ifs : List Expr} {scope : Scope} {own : List (Str × Nat)} {pos spos : Pos} {fi : FI} {bind : FG} {ft : FT} {fe : FM} (hc : X.calm = true) (hN : X.N.Nodup)
    (hsw : swapsWith (.ListComp elt [⟨tg, iter, ifs, 0⟩] scope pos) (some (.Name y py)) spos.line X.env = pure true) (hi : IP X tg iter fi) (ok : BlkOk X.N X.env.scope scope own)
    (hg : ∀ (s : Shared) (H : Hp) (C : Addr) (cl : List (Str × Addr)) (fp : List Addr), GP (X.blk s H scope (compEnvC scope cl C X.env) fp) tg (own.map (·.2)) bind)
    (ht : ∀ (s : Shared) (H : Hp) (C : Addr) (cl : List (Str × Addr)) (fp : List Addr), TPs (X.blk s H scope (compEnvC scope cl C X.env) fp) ifs ft)
    (he : ∀ (s : Shared) (H : Hp) (C : Addr) (cl : List (Str × Addr)) (fp : List Addr), PM (X.blk s H scope (compEnvC scope cl C X.env) fp) noW elt fe)
    (hlk : i ∉ lk := by decide) (hy : X.N[i]? = some y := by rfl) (hyl : X.env.scope.names.lookup y = some .local := by rfl)
    (hs : ∀ x, foldedSetIterable iter X.env x = pure x := by intro _; rfl) : SD X Wx lk (.Assign [.Name y py] (.ListComp elt [⟨tg, iter, ifs, 0⟩] scope pos) spos) (sSet i (mLc (own.map (·.2)) fi bind ft fe)) := by
  refine SD.of ⟨_, ps_setLc (g := tG X.K (own.map (·.2)) bind) (tt := tT X.K ft) (te := tM X.K X.mg noW fe) hc hN hy hyl hsw hi.pi ok (fun s H C cl fp => (hg s H C cl fp).pg) (fun s H C cl fp => (ht s H C cl fp).pts) (fun s H C cl fp => (he s H C cl fp).pe) hs, fun W H σ e D sr h => ?_⟩
  exact lm_fin (Wx := Wx) sr (DK.st (Q0 := fun v H' => D.nx (σ.set i (some v)) H') sr.wm h fun s v e1 W1 H1 sr1 x1 r h1 => put_st hlk sr1 r h1)
end
end DL

set_option maxHeartbeats 2000000
namespace DL
open PySem PySem.Spec PyProof.Rows L2

section
variable {X : Cx} {Wx : WX} {lk : List Nat} {a b c : Expr} {fa fb : FM} {stm : Stmt} {rest sts sts2 : List Stmt} {f g : FS} {pos : Pos}
theorem sd_setO (i : Nat) {x : Str} {px : Pos} (ha : PM X Wx a fa) (hN : X.N.Nodup) (hlk : i ∉ lk := by decide) (hi : X.N[i]? = some x := by rfl) (hx : Loc X.env.scope x := by first | exact Or.inl rfl | exact Or.inr rfl) (hs : swapsWith a (some (.Name x px)) pos.line X.env = pure false := by rfl)
    (hf : X.fn x = true ∨ X.env.scope.names.lookup x = some .local := by first | exact .inl rfl | exact .inr rfl | assumption) : SD X Wx lk (.Assign [.Name x px] a pos) (sSetO i fa) := by
  obtain ⟨t, p, k⟩ := ha.run
  exact SD.of ⟨_, ps_set hN hi hx p hs hf, fun W H σ e D sr h => k W H σ e _ sr (OutK.st h fun s v e1 W1 H1 sr1 x1 r fr h1 => putO_st hlk sr.wm sr1 x1 r fr h1)⟩
/-! ### return -/
@[simp] def sRet (fa : FM) : FS := fun e => (fa e).st fun s e1 => .rt s e1
theorem sd_ret (ha : PM X Wx a fa) : SD X Wx lk (.Return (some a) pos) (sRet fa) := by
  obtain ⟨t, p, k⟩ := ha.run
  refine SD.of ⟨_, ps_ret p, fun W H σ e D sr h => k W H σ e _ sr (OutK.st h fun s v e1 W1 H1 sr1 x1 r fr h1 => ?_)⟩
  exact h1 v W1 H1 σ sr1 x1 (fun _ _ => rfl) r fun so a ea => ⟨(fr so a ea).2, .inr (fr so a ea).1⟩
@[simp] def sRetN : FS := fun e => .rt (.d .non) e
theorem sd_retN : SD X Wx lk (.Return none pos) sRetN := SD.of ⟨_, ps_retN, fun W H σ e D sr h => h .non W H σ sr .refl (fun _ _ => rfl) rfl fun z => nomatch z⟩
/-- return name: the list goes to the caller -/
@[simp] def sRetMv (i : Nat) : FS := fun e => match e[i]? with
  | some (some s) => .rt s (e.set i none)
  | _ => .stuck
theorem sd_retMv (i : Nat) {x : Str} {px : Pos} (hN : X.N[i]? = some x := by rfl) (hv : Vis X.env.scope x := by first | exact Or.inl rfl | exact Or.inr (Or.inl rfl) | exact Or.inr (Or.inr rfl)) (hd : (x == ("__debug__" : Str)) = false := by decide)
    (hcd : (x == ("__classdict__" : Str)) = false := by decide) : SD X Wx lk (.Return (some (.Name x px)) pos) (sRetMv i) := by
  refine SD.of ⟨_, ps_ret (pe_var hN hv hd hcd), fun W H σ e D sr h => ?_⟩
  unfold sRetMv at h
  split at h
  rotate_left
  · exact h.elim
  rename_i s hs
  obtain ⟨v, h1, h2⟩ := sr.sl i s hs
  have hl : i < e.length := (List.getElem?_eq_some_iff.mp hs).1
  have back : ∀ {j : Nat} {t : S}, (e.set i none)[j]? = some (some t) → i ≠ j ∧ e[j]? = some (some t) := by
    intro j t q
    by_cases z : i = j
    · subst z
      rw [List.getElem?_set_self hl] at q
      cases q
    · rw [List.getElem?_set_ne z] at q
      exact ⟨z, q⟩
  have ow : ∀ a, Ow σ (e.set i none) a → Ow σ e a := fun a ⟨j, t, q1, q2, q3⟩ => ⟨j, t, (back q1).2, q2, q3⟩
  refine ⟨v, h1, h v W H σ ⟨sr.wm, by rw [List.length_set, sr.len], fun j t q => sr.sl j t (back q).2, fun j k t t' a q1 q2 => sr.one j k t t' a (back q1).2 (back q2).2⟩ (EX.shrink ow) (fun _ _ => rfl) h2 fun so a ea => ?_⟩
  subst ea
  refine ⟨fun ⟨j, t, q1, q2, q3⟩ => (back q1).1 (sr.one i j s t a hs (back q1).2 so q2 h1 q3), .inl ⟨i, s, hs, so, h1⟩⟩
/-! ### tests with effects; if -/
def BK (K : PySem.W.Frag) (mg : Str → Option Value) (Wx : WX) (W : List Addr) (H : Hp) (σ : St) (e : En) (Q : Bool → Hp → Prop) : Out → Prop
  | .stuck => False
  | .ok s e' => ∃ b, s = .d (.bl b) ∧ ∀ W' H', SR W' K H' σ e' → EX W H σ e W' H' σ e' → Q b H'
  | .ex x e' => ∀ cls d W' H', SR W' K H' σ e' → EX W H σ e W' H' σ e' → XR mg W' K H' x cls d → Wx cls d σ H'
structure TM (X : Cx) (Wx : WX) (ex : Expr) (f : FM) : Prop where
  run : ∃ t : TT, PT X ex t ∧ ∀ (W : List Addr) (H : Hp) (σ : St) (e : En) (Q : Bool → Hp → Prop), SR W X.K H σ e → BK X.K X.mg Wx W H σ e Q (f e) → t σ H Q
@[simp] def tMT (ft : FT) : FM := fun e => match ft e with
  | some b => .ok (.d (.bl b)) e
  | none => .stuck
theorem tm_tp {ft : FT} (h : TP X a ft) : TM X Wx a (tMT ft) := by
  obtain ⟨t, p, k⟩ := h.run
  refine ⟨t, p, fun W H σ e Q sr h => ?_⟩
  unfold tMT at h
  split at h
  · rename_i b hb
    obtain ⟨b', e1, h⟩ := h
    cases e1
    exact k W H σ e Q b sr hb fun W' H' g => h W' H' (g.sr sr) (g.fx sr)
  · exact h.elim
theorem tm_val (ha : PM X Wx a fa) (he : ∀ whole, isTrue a X.env whole = (do let v ← whole; standAt a.pos; holding [v] (truthy v)) := by intro _; rfl) : TM X Wx a fa := by
  obtain ⟨t, p, k⟩ := ha.run
  refine ⟨_, pt_val p he, fun W H σ e Q sr h => k W H σ e _ sr ?_⟩
  revert h
  generalize fa e = o
  intro h
  cases o with
  | stuck => exact h
  | ex x e1 => exact h
  | ok s e1 =>
    obtain ⟨b, rfl, h⟩ := h
    exact fun v W' H' sr' x r _ => ⟨b, r, h W' H' sr' x⟩
theorem tm_cmp {op : CmpOp} {g : D → D → Option RV} (ho : Op2 X (compareOp op) g) (ha : PM X Wx a fa) (hb : PM X Wx b fb) (hm : behindInMarks op b = false := by first | exact nomark _ | with_unfolding_all rfl) : TM X Wx (.Compare a [op] [b] pos) (m2 g fa fb) := by
  obtain ⟨rl, h1, h2⟩ := ho.run
  obtain ⟨ta, pa, ka⟩ := ha.run
  obtain ⟨tb, pb, kb⟩ := hb.run
  refine ⟨_, pt_cmpR h1 pa pb hm, fun W H σ e Q sr h => ?_⟩
  have h' : OutK X.K X.mg Wx W H σ e (fun v H' => ∃ b, v = .bl b ∧ Q b H') (m2 g fa fb e) := by
    revert h
    generalize m2 g fa fb e = o
    intro h
    cases o with
    | stuck => exact h
    | ex x e1 => exact h
    | ok s e1 =>
      obtain ⟨b, rfl, h⟩ := h
      exact fun v W' H' sr' x r _ => ⟨b, r, h W' H' sr' x⟩
  refine ka W H σ e _ sr (DK.bind sr.wm h' fun d v e1 W1 H1 sr1 x1 r1 h1' => kb W1 H1 σ e1 _ sr1 (DK.bind sr1.wm h1' fun d2 u e2 W2 H2 sr2 x2 r2 h2' => ?_))
  obtain ⟨r, er, kq⟩ := OutK.rvo sr2 h2'
  exact h2 W2 H2 v u d d2 r _ sr2.wm (.of (Rp.mono (x2.ex sr1) d r1)) (.of r2) er kq
theorem BK.go {W W1 : List Addr} {K : PySem.W.Frag} {mg : Str → Option Value} {H H1 : Hp} {σ : St} {e e1 : En} {Q : Bool → Hp → Prop} (x : EX W H σ e W1 H1 σ e1) : ∀ {o : Out}, BK K mg Wx W H σ e Q o → BK K mg Wx W1 H1 σ e1 Q o
  | .stuck, h => h
  | .ok s e', ⟨b, eb, h⟩ => ⟨b, eb, fun W' H' sr y => h W' H' sr (x.trans y)⟩
  | .ex z e', h => fun c d W' H' sr y r => h c d W' H' sr (x.trans y) r
structure WM' (X : Cx) (Wx : WX) (ex : Expr) (f : FM) : Prop where
  run : ∃ t : TT, PW X ex t ∧ ∀ (W : List Addr) (H : Hp) (σ : St) (e : En) (Q : Bool → Hp → Prop), SR W X.K H σ e → BK X.K X.mg Wx W H σ e Q (f e) → t σ H Q
theorem WM'.tm {ex : Expr} {f : FM} (h : WM' X Wx ex f) : TM X Wx ex f := let ⟨t, p, k⟩ := h.run; ⟨t, p.pt, k⟩
theorem wm_and1 (ha : TM X Wx a fa) : WM' X Wx (.BoolOp .And [a] pos) fa := let ⟨t, p, k⟩ := ha.run; ⟨t, pw_and1 p, k⟩
theorem wm_or1 (ha : TM X Wx a fa) : WM' X Wx (.BoolOp .Or [a] pos) fa := let ⟨t, p, k⟩ := ha.run; ⟨t, pw_or1 p, k⟩
@[simp] def tmNext (fa : FM) (f : Bool → FM) : FM := fun e => match fa e with
  | .ok (.d (.bl b)) e1 => f b e1
  | .ex x e1 => .ex x e1
  | _ => .stuck
theorem BK.next {W : List Addr} {H : Hp} {σ : St} {e : En} {Q : Bool → Hp → Prop} {Q0 : Bool → Hp → Prop} {f : Bool → FM} (h : BK X.K X.mg Wx W H σ e Q (tmNext fa f e))
    (k : ∀ b e1 W1 H1, SR W1 X.K H1 σ e1 → BK X.K X.mg Wx W1 H1 σ e1 Q (f b e1) → Q0 b H1) : BK X.K X.mg Wx W H σ e Q0 (fa e) := by
  unfold tmNext at h
  revert h
  generalize fa e = o
  intro h
  cases o with
  | stuck => exact h
  | ex x e1 => exact h
  | ok s e1 =>
    cases s with
    | lst xs => exact h.elim
    | d y =>
      cases y with
      | bl b => exact ⟨b, rfl, fun W1 H1 sr1 x1 => k b e1 W1 H1 sr1 (BK.go (o := f b e1) x1 h)⟩
      | _ => exact h.elim
@[simp] def tmAnd (fa fb : FM) : FM := tmNext fa fun b e1 => if b = true then fb e1 else .ok (.d (.bl false)) e1
@[simp] def tmOr (fa fb : FM) : FM := tmNext fa fun b e1 => if b = true then .ok (.d (.bl true)) e1 else fb e1
@[simp] def tmNot (fa : FM) : FM := tmNext fa fun b e1 => .ok (.d (.bl (!b))) e1
theorem BK.tf {W : List Addr} {K : PySem.W.Frag} {mg : Str → Option Value} {H : Hp} {σ : St} {e : En} {Q : Bool → Hp → Prop} {b : Bool} (sr : SR W K H σ e) (h : BK K mg Wx W H σ e Q (.ok (.d (.bl b)) e)) : Q b H := by
  obtain ⟨b', e1, h⟩ := h
  cases e1
  exact h W H sr .refl
theorem wm_and {tl : List Expr} (ha : TM X Wx a fa) (hb : WM' X Wx (.BoolOp .And (b :: tl) pos) fb) : WM' X Wx (.BoolOp .And (a :: b :: tl) pos) (tmAnd fa fb) := by
  obtain ⟨t, p, ka⟩ := ha.run
  obtain ⟨u, p', kb⟩ := hb.run
  refine ⟨_, pw_and p p', fun W H σ e Q sr h => ka W H σ e _ sr (BK.next h fun q e1 W1 H1 sr1 h1 => ?_)⟩
  cases q with
  | true => exact kb W1 H1 σ e1 Q sr1 h1
  | false => exact BK.tf sr1 h1
theorem wm_or {tl : List Expr} (ha : TM X Wx a fa) (hb : WM' X Wx (.BoolOp .Or (b :: tl) pos) fb) : WM' X Wx (.BoolOp .Or (a :: b :: tl) pos) (tmOr fa fb) := by
  obtain ⟨t, p, ka⟩ := ha.run
  obtain ⟨u, p', kb⟩ := hb.run
  refine ⟨_, pw_or p p', fun W H σ e Q sr h => ka W H σ e _ sr (BK.next h fun q e1 W1 H1 sr1 h1 => ?_)⟩
  cases q with
  | false => exact kb W1 H1 σ e1 Q sr1 h1
  | true => exact BK.tf sr1 h1
theorem tm_not (ha : TM X Wx a fa) : TM X Wx (.UnaryOp .Not a pos) (tmNot fa) := by
  obtain ⟨t, p, ka⟩ := ha.run
  exact ⟨_, pt_not p, fun W H σ e Q sr h => ka W H σ e _ sr (BK.next h fun q e1 W1 H1 sr1 h1 => BK.tf sr1 h1)⟩
@[simp] def sIf (fc : FM) (f g : FS) : FS := fun e => match fc e with
  | .ok (.d (.bl b)) e1 => if b = true then f e1 else g e1
  | .ex x e1 => .ex x e1
  | _ => .stuck
theorem sd_if {fc : FM} (hc : TM X Wx c fc) (ha : SDs X Wx lk sts f) (hb : SDs X Wx lk sts2 g) : SD X Wx lk (.If c sts sts2 pos) (sIf fc f g) := by
  obtain ⟨t, p, kc⟩ := hc.run
  obtain ⟨ua, pa, ka⟩ := ha.run
  obtain ⟨ub, pb, kb⟩ := hb.run
  refine SD.of ⟨_, ps_if p pa pb, fun W H σ e D sr h => kc W H σ e _ sr ?_⟩
  unfold sIf at h
  revert h
  generalize fc e = o
  intro h
  cases o with
  | stuck => exact h
  | ex x e1 => exact fun c d W' H' sr' x' r => h c d W' H' σ sr' x' (fun _ _ => rfl) r
  | ok s e1 =>
    cases s with
    | lst xs => exact h.elim
    | d y =>
      cases y with
      | bl b =>
        refine ⟨b, rfl, fun W1 H1 sr1 x1 => ?_⟩
        have h' := FlK.go x1 (fun _ _ => rfl) h
        cases b with
        | true => exact ka W1 H1 σ e1 D sr1 h'
        | false => exact kb W1 H1 σ e1 D sr1 h'
      | _ => exact h.elim
/-! ### while -/
def whileF (fc : FM) (fb : FS) : Nat → FS
  | 0, _ => .stuck
  | n + 1, e => match fc e with
    | .ok (.d (.bl b)) e1 => if b = true then (match fb e1 with
      | .nx e2 => whileF fc fb n e2
      | .ct e2 => whileF fc fb n e2
      | .bk e2 => .nx e2
      | o => o) else .nx e1
    | .ex x e1 => .ex x e1
    | _ => .stuck
theorem sd_while {fc : FM} {fb : FS} (n : Nat) (hp : PassesOwn (model X.prog X.w) X.A X.env X.xe) (hc : TM X Wx c fc) (hb : SDs X Wx lk sts fb) : SD X Wx lk (.While c sts [] pos) (whileF fc fb n) := by
  obtain ⟨t, p, kc⟩ := hc.run
  obtain ⟨u, pb, kb⟩ := hb.run
  refine SD.of ⟨_, ps_while hp p pb, fun W H σ e D sr h => ?_⟩
  refine ⟨fun n σ2 H2 => ∃ W2 e2, SR W2 X.K H2 σ2 e2 ∧ FlK X.K X.mg Wx lk W2 H2 σ2 e2 D (whileF fc fb n e2), ⟨n, W, e, sr, h⟩, ?_⟩
  rintro m σ2 H2 ⟨W2, e2, sr2, h2⟩
  cases m with
  | zero => exact h2.elim
  | succ m =>
    refine kc W2 H2 σ2 e2 _ sr2 ?_
    unfold whileF at h2
    revert h2
    generalize fc e2 = o
    intro h2
    cases o with
    | stuck => exact h2
    | ex x e1 => exact fun c d W' H' sr' x' r => h2 c d W' H' σ2 sr' x' (fun _ _ => rfl) r
    | ok s e1 =>
      cases s with
      | lst xs => exact h2.elim
      | d y =>
        cases y with
        | bl b =>
          refine ⟨b, rfl, fun W3 H3 sr3 x3 => ?_⟩
          have h3 := FlK.go x3 (fun _ _ => rfl) h2
          cases b with
          | false => exact iteF (h3 W3 H3 σ2 sr3 .refl fun _ _ => rfl)
          | true =>
            refine iteT ⟨fun σ' H' => ∃ W4 e4, SR W4 X.K H' σ' e4 ∧ FlK X.K X.mg Wx lk W4 H' σ' e4 D (whileF fc fb m e4), fun σ' H' q => ⟨m, Nat.lt_succ_self m, q⟩, kb W3 H3 σ2 e1 _ sr3 ?_⟩
            have h3 : FlK X.K X.mg Wx lk W3 H3 σ2 e1 D (match fb e1 with
              | .nx e2 => whileF fc fb m e2
              | .ct e2 => whileF fc fb m e2
              | .bk e2 => .nx e2
              | o => o) := h3
            revert h3
            generalize fb e1 = fl
            intro h3
            cases fl with
            | stuck => exact h3
            | nx e4 => exact fun W4 H4 σ4 sr4 x4 l4 => ⟨W4, e4, sr4, FlK.go x4 l4 h3⟩
            | ct e4 => exact fun W4 H4 σ4 sr4 x4 l4 => ⟨W4, e4, sr4, FlK.go x4 l4 h3⟩
            | bk e4 => exact h3
            | rt s e4 => exact h3
            | ex x e4 => exact h3
        | _ => exact h2.elim
/-! ### for -/
@[simp] def forL (bind : FG) (fb : FS) : List D → FS
  | [], e => .nx e
  | d :: ds, e => match bind d e with
    | none => .stuck
    | some e1 => match fb e1 with
      | .nx e2 => forL bind fb ds e2
      | .ct e2 => forL bind fb ds e2
      | .bk e2 => .nx e2
      | o => o
@[simp] def sFor (fi : FI) (bind : FG) (fb : FS) : FS := fun e => match fi e with
  | some (ds, true) => forL bind fb ds e
  | _ => .stuck
theorem sd_for {tg iter : Expr} {vs : List Nat} {fi : FI} {bind : FG} {fb : FS} (hp : PassesOwn (model X.prog X.w) X.A X.env X.xe) (hc : X.calm = true) (hi : IP X tg iter fi) (hg : GP X tg vs bind) (hb : SDs X Wx lk sts fb) (hlk : ∀ j ∈ lk, j ∉ vs := by decide)
    (hs : ∀ x, foldedSetIterable iter X.env x = pure x := by intro _; rfl) : SD X Wx lk (.For tg iter sts [] pos) (sFor fi bind fb) := by
  obtain ⟨u, pb, kb⟩ := hb.run
  refine SD.of ⟨_, ps_for (g := tG X.K vs bind) hp hc hi.pi hg.pg pb hs, fun W H σ e D sr h => ?_⟩
  unfold sFor at h
  split at h
  rotate_left
  · exact h.elim
  rename_i ds hds
  refine ⟨W, e, ds, true, sr, hds, fun J W1 H1 g1 it => ?_⟩
  refine ⟨fun i m σ2 H2 => m = ds.length - i ∧ i ≤ ds.length ∧ ∃ W2 e2, SR W2 X.K H2 σ2 e2 ∧ Ex W1 H1 W2 H2 ∧ FlK X.K X.mg Wx lk W2 H2 σ2 e2 D (forL bind fb (ds.drop i) e2), ⟨ds.length, rfl, Nat.zero_le _, W1, e, g1.sr sr, .refl g1.wm, FlK.go (g1.fx sr) (fun _ _ => rfl) h⟩, ?_⟩
  rintro i m σ2 H2 ⟨rfl, hle, W2, e2, sr2, x2, h2⟩
  have I2 := it W2 H2 (.inr ⟨rfl, x2, sr2.wm⟩)
  by_cases hlt : i < ds.length
  · refine .inr ?_
    obtain ⟨d, hd⟩ : ∃ d, ds[i]? = some d := ⟨ds[i], List.getElem?_eq_getElem hlt⟩
    obtain ⟨hgo, hy⟩ := I2.1 i d hd
    refine ⟨hgo, fun σ' H' => ∃ W4 e4, SR W4 X.K H' σ' e4 ∧ Ex W1 H1 W4 H' ∧ FlK X.K X.mg Wx lk W4 H' σ' e4 D (forL bind fb (ds.drop (i + 1)) e4), fun σ' H' q => ⟨ds.length - (i + 1), by omega, rfl, hlt, q⟩, fun x H3 y => ?_⟩
    obtain ⟨kp, rp⟩ := hy x H3 y
    have ed : ds.drop i = d :: ds.drop (i + 1) := by
      rw [List.drop_eq_getElem_cons hlt]
      rw [List.getElem?_eq_getElem hlt] at hd
      cases hd
      rfl
    rw [ed] at h2
    unfold forL at h2
    split at h2
    · exact h2.elim
    rename_i e1 he1
    have g3 : Grow W2 H2 W2 H3 := .of sr2.wm kp
    have sr3 := g3.sr sr2
    refine ⟨W2, e2, d, e1, sr3, rp, he1, fun σ1 sr1 l1 a1 o1 => kb W2 H3 σ1 e1 _ sr1 ?_⟩
    have x3 : EX W2 H2 σ2 e2 W2 H3 σ1 e1 := (g3.fx sr2).trans (EX.shrink o1)
    have xx : Ex W1 H1 W2 H3 := x2.trans (g3.ex sr2.wm)
    have h3 := FlK.go x3 (fun j hj => a1 j (hlk j hj)) h2
    revert h3
    generalize fb e1 = fl
    intro h3
    cases fl with
    | stuck => exact h3
    | nx e4 => exact fun W4 H4 σ4 sr4 x4 l4 => ⟨W4, e4, sr4, xx.trans (x4.ex sr1), FlK.go x4 l4 h3⟩
    | ct e4 => exact fun W4 H4 σ4 sr4 x4 l4 => ⟨W4, e4, sr4, xx.trans (x4.ex sr1), FlK.go x4 l4 h3⟩
    | bk e4 => exact h3
    | rt s e4 => exact h3
    | ex x e4 => exact h3
  · have ei : i = ds.length := by omega
    subst ei
    rw [List.drop_length] at h2
    exact .inl ⟨I2.2, h2 W2 H2 σ2 sr2 .refl fun _ _ => rfl⟩
/-! ### a, b = x, y -/
@[simp] def OA.st (o : OA) (f : List AR → FS) : Fl := match o with
  | .stuck => .stuck
  | .ok as e => f as e
  | .ex x e => .ex x e
@[simp] def AR.s? : AR → Option S
  | .fz x => some (.d x)
  | .ow xs => some (.lst xs)
  | .bw _ => none
@[simp] def put2' (i j n : Nat) (u v : Option S) (e : En) : Fl := match u, v with
  | some u, some v => if n ≤ 1 ∧ i < e.length ∧ j < e.length then .nx ((e.set i (some u)).set j (some v)) else .stuck
  | _, _ => .stuck
@[simp] def put2 (i j : Nat) : List AR → FS := fun as e => match as with
  | [r, s] => put2' i j (ows [r, s]) r.s? s.s? e
  | _ => .stuck
theorem put2_ok (i j : Nat) (as : List AR) (e : En) : put2 i j as e = .stuck ∨ ∃ r s u w, as = [r, s] ∧ r.s? = some u ∧ s.s? = some w ∧ (ows [r, s] ≤ 1 ∧ i < e.length ∧ j < e.length) ∧ put2 i j as e = .nx ((e.set i (some u)).set j (some w)) := by
  match as with
  | [] => exact .inl rfl
  | [_] => exact .inl rfl
  | _ :: _ :: _ :: _ => exact .inl rfl
  | [r, s] =>
    show put2' i j (ows [r, s]) r.s? s.s? e = .stuck ∨ _
    cases hu : r.s? with
    | none => exact .inl rfl
    | some u =>
      cases hv : s.s? with
      | none => exact .inl rfl
      | some v =>
        by_cases hc : ows [r, s] ≤ 1 ∧ i < e.length ∧ j < e.length
        · exact .inr ⟨r, s, u, v, rfl, hu, hv, hc, by show put2' i j (ows [r, s]) r.s? s.s? e = _; rw [hu, hv]; exact if_pos hc⟩
        · exact .inl (if_neg hc)
@[simp] def sPar (i j : Nat) (fs : FAR) : FS := fun e => (fs e).st (put2 i j)
theorem ARok.rs {H0 : Hp} {W : List Addr} {K : PySem.W.Frag} {H : Hp} {σ : St} {e : En} : ∀ {r : AR} {v : V} {s : S}, ARok H0 W K H σ e r v → r.s? = some s → RS W K H s v ∧ (s.own = true → ∀ a, v = .ref a → H0 a = none ∧ ¬ Ow σ e a)
  | .fz x, v, s, h, q => by cases q; exact ⟨h, fun z => nomatch z⟩
  | .ow xs, v, s, ⟨a, vs, ev, h0, h1, h2, h3, h4⟩, q => by
    cases q
    refine ⟨⟨a, vs, ev, h1, h2, h3⟩, fun _ b eb => ?_⟩
    rw [ev] at eb
    cases eb
    exact ⟨h0, h4⟩
  | .bw i, v, s, h, q => by cases q
theorem sd_par (i j : Nat) {x y : Str} {px py pt : Pos} {kt k2 : Nat} {pt2 : Pos} {fs : FAR} (hc : X.calm = true) (ha : ARJ X Wx [a, b] fs) (hN : X.N.Nodup)
    (hw : swappedStores [.Tuple [.Name x px, .Name y py] kt pt] (.Tuple [a, b] k2 pt2) X.env = pure (some [x, y]))
    (hli : i ∉ lk := by decide) (hlj : j ∉ lk := by decide) (hi : X.N[i]? = some x := by rfl) (hj : X.N[j]? = some y := by rfl) (hij : i ≠ j := by decide)
    (hx : X.env.scope.names.lookup x = some .local := by rfl) (hy : X.env.scope.names.lookup y = some .local := by rfl)
    (hs : swapsWithSole [.Tuple [.Name x px, .Name y py] kt pt] (.Tuple [a, b] k2 pt2) pos.line X.env = pure false := by rfl) :
    SD X Wx lk (.Assign [.Tuple [.Name x px, .Name y py] kt pt] (.Tuple [a, b] k2 pt2) pos) (sPar i j fs) := by
  obtain ⟨t, p, k⟩ := ha.run
  refine SD.of ⟨_, ps_par hc hN hi hj hij hx hy p hw hs, fun W H σ e D sr h => k W H σ e _ sr ?_⟩
  unfold sPar at h
  revert h
  generalize fs e = o
  intro h
  cases o with
  | stuck => exact h
  | ex z e1 => exact fun c d W' H' sr' x' r => h c d W' H' σ sr' x' (fun _ _ => rfl) r
  | ok as e1 =>
    intro vs W1 H1 sr1 x1 ar
    have h : FlK X.K X.mg Wx lk W H σ e D (put2 i j as e1) := h
    rcases put2_ok i j as e1 with q | ⟨r, s, u, w, rfl, hu, hv, hz, q⟩
    · rw [q] at h
      exact h.elim
    rw [q] at h
    obtain ⟨v, us, rfl, ar1, v', us', rfl, ar2, en⟩ := ar
    cases (show us' = [] from en)
    obtain ⟨r1, f1⟩ := ar1.rs hu
    obtain ⟨r2, f2⟩ := ar2.rs hv
    obtain ⟨s2, x2⟩ := store_own sr.wm sr1 x1 r1 f1 hz.2.1
    have f2' : w.own = true → ∀ a, v' = .ref a → H a = none ∧ ¬ Ow (σ.set i (some v)) (e1.set i (some u)) a := by
      intro wo a ea
      refine ⟨(f2 wo a ea).1, ?_⟩
      cases u with
      | d y => exact fun z => (f2 wo a ea).2 (z.setD hz.2.1)
      | lst ys =>
        exfalso
        cases r with
        | fz x => cases hu
        | bw k => cases hu
        | ow zs =>
          cases s with
          | fz x => cases hv; cases wo
          | bw k => cases hv
          | ow qs => exact absurd hz.1 (by show ¬ (0 + 1 + 1 ≤ 1); omega)
    obtain ⟨s3, x3⟩ := store_own (i := j) sr.wm s2 x2 r2 f2' (by rw [List.length_set]; exact hz.2.2)
    refine ⟨v, v', rfl, h W1 H1 _ s3 x3 fun l hl => ?_⟩
    rw [List.getElem?_set_ne fun (z : j = l) => hlj (by rw [z]; exact hl), List.getElem?_set_ne fun (z : i = l) => hli (by rw [z]; exact hl)]
end

/-! ## targets that change lists: a[i] = .. -/
def tGe (K : PySem.W.Frag) (lk : List Nat) (f : FG) : TG := fun v σ H Q => ∃ (W : List Addr) (e : En) (d : D) (e' : En), SR W K H σ e ∧ Rp W K H d v ∧ f d e = some e' ∧
  ∀ W' H' σ', SR W' K H' σ' e' → EX W H σ e W' H' σ' e' → (∀ j ∈ lk, σ'[j]? = σ[j]?) → Q σ' H'
structure GE (X : Cx) (tg : Expr) (lk : List Nat) (f : FG) : Prop where
  pg : PG X tg (tGe X.K lk f)
def tGes (K : PySem.W.Frag) (lk : List Nat) (f : List D → En → Option En) : TGs := fun us σ H Q => ∃ (W : List Addr) (e : En) (ds : List D) (e' : En), SR W K H σ e ∧ RpL W K H ds us ∧ f ds e = some e' ∧
  ∀ W' H' σ', SR W' K H' σ' e' → EX W H σ e W' H' σ' e' → (∀ j ∈ lk, σ'[j]? = σ[j]?) → Q σ' H'
structure GEs (X : Cx) (ts : List Expr) (lk : List Nat) (f : List D → En → Option En) : Prop where
  pgs : PGs X ts (tGes X.K lk f)
section
variable {X : Cx} {Wx : WX} {lk : List Nat} {a : Expr} {fa : FM} {pos : Pos}
theorem ge_gp {tg : Expr} {vs : List Nat} {f : FG} (h : GP X tg vs f) (hlk : ∀ j ∈ lk, j ∉ vs := by decide) : GE X tg lk f :=
  ⟨⟨fun pins s σ H v u Q I r ⟨W, e, d, e', sr, rp, hf, k⟩ => h.pg.run pins s σ H v u Q I r ⟨W, e, d, e', sr, rp, hf, fun σ' sr' l' a' o' => k W H σ' sr' (EX.shrink o') fun j hj => a' j (hlk j hj)⟩⟩⟩
/-- slot i's list at index .. -/
@[simp] def gSet (i : Nat) (fi : FP) : FG := fun d e => match e[i]? with
  | some (some (.lst xs)) => (fi e).bind fun r => r.i?.bind fun k => (ixN xs.length k).map fun j => e.set i (some (.lst (xs.set j d)))
  | _ => none
theorem ge_sub (i : Nat) {x : Str} {px : Pos} {ix : Expr} {fi : FP} (hi : PP X ix fi) (hN : X.N[i]? = some x := by rfl) (hv : Vis X.env.scope x := by first | exact Or.inl rfl | exact Or.inr (Or.inl rfl) | exact Or.inr (Or.inr rfl)) (hd : (x == ("__debug__" : Str)) = false := by decide)
    (hcd : (x == ("__classdict__" : Str)) = false := by decide)
    (has : ∀ v, assign (.Subscript (.Name x px) ix pos) X.env v = (do
      let ov ← holding [v] (eval (.Name x px) X.env)
      let iv ← holding [v, ov] (eval ix X.env)
      standAt pos
      holding [v, ov, iv] (setItem ov iv v)
      release [v, ov, iv] []) := by intro _; rfl) : GE X (.Subscript (.Name x px) ix pos) lk (gSet i fi) := by
  obtain ⟨ti, pi, ki⟩ := hi.run
  refine ⟨⟨fun pins s σ H v u Q I r ⟨W, e, d, e', sr, rp, hf, k⟩ => (pg_sub (pe_var hN hv hd hcd) pi set_list has).run pins s σ H v u Q I r ?_⟩⟩
  unfold gSet at hf
  split at hf
  rotate_left
  · cases hf
  rename_i xs hx
  obtain ⟨rv, e1, hf⟩ := Option.bind_eq_some_iff.mp hf
  obtain ⟨kk, e2, hf⟩ := Option.bind_eq_some_iff.mp hf
  obtain ⟨j, e3, ef⟩ := Option.map_eq_some_iff.mp hf
  have e4 := RV.i?_ok e2
  subst e4
  subst ef
  obtain ⟨l, vs, q1, q2, q3, q4⟩ := sr.hit hx
  refine ⟨_, q1, ki W H σ e _ _ sr e1 fun iv W1 H1 g1 k1 => ?_⟩
  have sr1 := g1.sr sr
  have at1 := g1.keep _ _ q3
  have rp1 := Rp.mono (g1.ex sr.wm) d rp
  have rx1 := RpL.mono (g1.ex sr.wm) xs q4
  obtain ⟨s2, x2⟩ := sr1.setL hx q1 (g1.sub _ q2) (rx1.set j rp1)
  exact ⟨l, vs, kk, j, rfl, k1, at1, by rw [← rx1.length]; exact e3, k W1 _ σ s2 ((g1.fx sr).trans x2) fun _ _ => rfl⟩
theorem ges_nil : GEs X [] lk gsNil := by
  refine ⟨⟨fun pins s σ H us vals Q I r ⟨W, e, ds, e', sr, rp, hfd, k⟩ => ?_⟩⟩
  cases ds with
  | nil =>
    cases (show us = [] from rp)
    cases hfd
    exact pgs_nil.run pins s σ H [] vals Q I r ⟨rfl, k W H σ sr .refl fun _ _ => rfl⟩
  | cons d r => cases hfd
theorem ges_cons {t : Expr} {es : List Expr} {f : FG} {fs : List D → En → Option En} (h1 : GE X t lk f) (h2 : GEs X es lk fs)
    (hs : (assignEach (t :: es) X.env).map (·.2) = assign t X.env :: (assignEach es X.env).map (·.2) := by rfl) : GEs X (t :: es) lk (gsCons f fs) := by
  refine ⟨⟨fun pins s σ H us vals Q I r ⟨W, e, ds, e', sr, rp, hfd, k⟩ => ?_⟩⟩
  cases ds with
  | nil => cases hfd
  | cons d ds =>
    obtain ⟨v, ur, rfl, p1, p2⟩ := rp
    obtain ⟨e1, he1, hfd⟩ := Option.bind_eq_some_iff.mp hfd
    refine (pgs_cons h1.pg h2.pgs hs).run pins s σ H _ vals Q I r ⟨v, ur, rfl, W, e, d, e1, sr, p1, he1, fun W1 H1 σ1 sr1 x1 l1 => ?_⟩
    exact ⟨W1, e1, ds, e', sr1, RpL.mono (x1.ex sr) ds p2, hfd, fun W2 H2 σ2 sr2 x2 l2 => k W2 H2 σ2 sr2 (x1.trans x2) fun j hj => (l2 j hj).trans (l1 j hj)⟩
theorem ge_tup {es : List Expr} {k : Nat} {p : Pos} {fs : List D → En → Option En} {n : Nat} (hc : X.calm = true) (h : GEs X es lk fs) (hn : (assignEach es X.env).length = n := by rfl) (hst : (assignEach es X.env).findIdx? (·.1) = none := by rfl) :
    GE X (.Tuple es k p) lk (gTp n fs) := by
  refine ⟨⟨fun pins s σ H v u Q I r ⟨W, e, d, e', sr, rp, hfd, kk⟩ => ?_⟩⟩
  cases d with
  | tup xs =>
    have hfd' : (if xs.length = n then fs xs e else none) = some e' := hfd
    split at hfd'
    · rename_i hl
      obtain ⟨a, us, e1, q1, q2⟩ := rp
      exact (pg_tup hc h.pgs hn hst).run pins s σ H v u Q I r ⟨a, us, e1, q1, by rw [← q2.length]; exact hl, W, e, xs, e', sr, q2, hfd', kk⟩
    · cases hfd'
  | _ => cases hfd
@[simp] def sAsg (fa : FM) (f : FG) : FS := fun e => (fa e).st fun s e1 => match f s.view e1 with
  | some e2 => .nx e2
  | none => .stuck
theorem sd_asg {tg : Expr} {f : FG} (ha : PM X Wx a fa) (hg : GE X tg lk f) (hs : swapsWithSole [tg] a pos.line X.env = pure false := by rfl) (hw : swappedStores [tg] a X.env = pure none := by rfl)
    (h1 : (assignEach [tg] X.env).map (·.2) = [assign tg X.env] := by rfl) : SD X Wx lk (.Assign [tg] a pos) (sAsg fa f) := by
  obtain ⟨t, p, k⟩ := ha.run
  refine SD.of ⟨_, ps_asg p hg.pg hs hw h1, fun W H σ e D sr h => k W H σ e _ sr (DK.st sr.wm h fun s v e1 W1 H1 sr1 x1 r h1 => ?_)⟩
  split at h1
  · rename_i e2 he
    exact ⟨W1, e1, s.view, e2, sr1, r, he, fun W' H' σ' sr' x' l' => h1 W' H' σ' sr' x' l'⟩
  · exact h1.elim
end
end DL

set_option maxHeartbeats 2000000
namespace DL
open PySem PySem.Spec PyProof.Rows L2

/-! ## repr -/
section
variable {X : Cx}
def gRepr : List D → Option RV
  | [x] => (match x with
    | .tup _ => if x.okp = true ∧ x.py.showable = true ∧ x.py.depth ≤ 100 ∧ x.py.shown.length ≤ SZ then some (.fz (.str x.py.shown)) else none
    | .lst _ => if x.okp = true ∧ x.py.showable = true ∧ x.py.depth ≤ 100 ∧ x.py.shown.length ≤ SZ then some (.fz (.str x.py.shown)) else none
    | _ => none)
  | _ => none
mutual
theorem D.noDict : ∀ d : D, d.okp = true → d.py.hasDict = false
  | .non, _ => rfl
  | .bl _, _ => rfl
  | .int _, _ => rfl
  | .str _, _ => rfl
  | .tup xs, o => by show (PyData.tuple (pyL xs)).hasDict = false; simp only [PyData.hasDict]; exact noDictL xs o
  | .lst xs, o => by show (PyData.list (pyL xs)).hasDict = false; simp only [PyData.hasDict]; exact noDictL xs o
  | .ro xs, o => by show (PyData.list (pyL xs)).hasDict = false; simp only [PyData.hasDict]; exact noDictL xs o
theorem noDictL : ∀ ds : List D, okpL ds = true → PyData.hasDictAll (pyL ds) = false
  | [], _ => by unfold pyL; simp only [PyData.hasDictAll]
  | d :: ds, o => by
    obtain ⟨o1, o2⟩ := Bool.and_eq_true_iff.mp (show (d.okp && okpL ds) = true from o)
    unfold pyL
    simp only [PyData.hasDictAll, D.noDict d o1, noDictL ds o2, Bool.or_false]
end
def rRepr (K : PySem.W.Frag) : List V → Hp → VK → Prop := fun xs H Q => ∃ (a : Addr) (d : PyData), xs = [.ref a] ∧ Dp K H (.ref a) d ∧ d.showable = true ∧ d.hasDict = false ∧ d.depth ≤ 100 ∧ d.shown.length ≤ sizeLine ∧ Q (.str d.shown) H
theorem call_reprD (hg : X.A.guards = some []) (hu : X.A.units + 110 < cLine) : CallR X (.builtin "repr") (rRepr X.K) := by
  intro pins s σ H xs us Q I r h
  obtain ⟨a, d, rfl, dp, hs, hd, hp, hz, q⟩ := h
  cases r with
  | cons r rr =>
    cases rr
    obtain ⟨as, rd⟩ := Dp.reads I d _ _ dp r
    cases r
    refine repr_of_reads' rd hs (PyData.noDict_hsm hd) hg (by omega) (fun _ _ e => e) (fun h' u tk k => ?_) hz
    exact ⟨.str d.shown, H, I.kept (t' := tk) k, ⟨u, rfl⟩, q⟩
theorem c_repr (hg : X.A.guards = some []) (hu : X.A.units + 110 < cLine) : Ca X (.builtin "repr") gRepr := by
  refine ⟨_, call_reprD hg hu, fun W H xs ds r Q wm hx hgr k => ?_⟩
  have main : ∀ x : D, VzL W X.K H [x] xs → (∃ v, xs = [v] ∧ ∃ a, v = .ref a) → (if x.okp = true ∧ x.py.showable = true ∧ x.py.depth ≤ 100 ∧ x.py.shown.length ≤ SZ then some (RV.fz (.str x.py.shown)) else none) = some r → rRepr X.K xs H Q := by
    intro x hx ⟨v, ev, a, ea⟩ hgr
    split at hgr
    · rename_i hz
      cases hgr
      obtain ⟨v', e1, h⟩ := hx.one
      rw [ev] at e1
      cases e1
      have dp := Vz.dp hz.1 h
      subst ea
      exact ⟨a, x.py, ev, dp, hz.2.1, D.noDict x hz.1, hz.2.2.1, by rw [SZ_eq]; exact hz.2.2.2, k.fz wm rfl⟩
    · cases hgr
  unfold gRepr at hgr
  split at hgr
  rotate_left
  · cases hgr
  split at hgr
  · refine main _ hx ?_ hgr
    obtain ⟨v, e1, a, vs, e2, _⟩ := hx.one
    exact ⟨v, e1, a, e2⟩
  · refine main _ hx ?_ hgr
    obtain ⟨v, e1, a, vs, e2, _⟩ := hx.one
    exact ⟨v, e1, a, e2⟩
  · cases hgr
end

/-! ## methods of texts, of the module's tuples -/
section
variable {X : Cx} {o a : Expr} {fo : FP} {fs : FA} {es : List Expr} {apos cpos : Pos} {m : Str}
structure MtS (X : Cx) (id : String) (g : Str → List D → Option RV) : Prop where
  run : ∃ r : V → List V → Hp → VK → Prop, MtR X id r ∧ ∀ (W : List Addr) (H : Hp) (z : Str) (ds : List D) (xs : List V) (rv : RV) (Q : VK), WM W H → VzL W X.K H ds xs → g z ds = some rv → KQ W X.K H rv Q → r (.str z) xs H Q
@[simp] def RV.s? : RV → Option Str
  | .fz (.str b) => some b
  | _ => none
theorem RV.s?_ok {r : RV} {b : Str} (h : r.s? = some b) : r = .fz (.str b) := by
  unfold RV.s? at h
  split at h
  · cases h; rfl
  · cases h
@[simp] def pSm (g : Str → List D → Option RV) (fo : FP) (fs : FA) : FP := fun e => (fo e).bind fun r => r.s?.bind fun z => (fs e).bind fun rs => g z (rs.map RV.view)
theorem pp_smeth {id : String} {g : Str → List D → Option RV} (hm : MtS X id g) (slot : Slot "str" m id) (ho : PP X o fo) (ha : PPs X (a :: es) fs) (hty : typeOf (.builtin id) = pure (.type "method_descriptor"))
    (hbase : attributeBase o m X.env (eval o X.env) = eval o X.env := by rfl)
    (hfew : ((backTo cpos (starEach (a :: es) X.env)).all (fun x => !x.1) && (backToKw cpos (keywordEach [] X.env)).all (fun x => x.1.isSome) && decide ((a :: es).length + ([] : List Keyword).length + (if ([] : List Keyword).isEmpty then 0 else 1) < 30)) = true := by rfl)
    (hline : (apos.endLine == cpos.line) = true := by rfl) (hs : starEach (a :: es) X.env = (false, eval a X.env) :: starEach es X.env := by rfl) (hplain : (backTo cpos (starEach es X.env)).any (·.1) = false := by rfl) :
    PP X (.Call (.Attribute o m apos) (a :: es) [] cpos) (pSm g fo fs) := by
  obtain ⟨rl, h1, h2⟩ := hm.run
  obtain ⟨to, po, ko⟩ := ho.run
  obtain ⟨t, pa, ka⟩ := ha.run
  refine PP.of ⟨_, pe_bm F.plainAttrs_str slot hty h1 po pa hbase hfew hline hs hplain, fun W H σ e Q r sr hf k => ?_⟩
  obtain ⟨r1, e1, hy⟩ := Option.bind_eq_some_iff.mp hf
  obtain ⟨z, e2, hw⟩ := Option.bind_eq_some_iff.mp hy
  obtain ⟨rs, e3, hv⟩ := Option.bind_eq_some_iff.mp hw
  have e4 := RV.s?_ok e2
  subst e4
  refine ko W H σ e _ _ sr e1 fun v W1 H1 g1 k1 => ?_
  have k1 : v = .str z := k1
  subst k1
  refine ⟨rfl, ka W1 H1 σ e _ rs (g1.sr sr) e3 fun vs W2 H2 g2 k2 => ?_⟩
  exact h2 W2 H2 z _ vs r Q g2.wm k2.vzL hv fun v W' H' g3 k3 => k v W' H' ((g1.trans g2).trans g3) (k3.back fun a h => g1.fresh (g2.fresh h))
def gJoin (z : Str) : List D → Option RV
  | [.lst xs] => (strs? xs).bind fun ys => if (ys.map (·.length)).sum + ys.length * z.length ≤ SZ then some (.fz (.str (Txt.join z ys))) else none
  | [.tup xs] => (strs? xs).bind fun ys => if (ys.map (·.length)).sum + ys.length * z.length ≤ SZ then some (.fz (.str (Txt.join z ys))) else none
  | _ => none
theorem s_join : MtS X "str.join" gJoin := by
  refine ⟨_, mt_join, fun W H z ds xs r Q wm hx hg k => ?_⟩
  unfold gJoin at hg
  split at hg
  · obtain ⟨ys, e, hg⟩ := Option.bind_eq_some_iff.mp hg
    split at hg
    · rename_i hz
      cases hg
      obtain ⟨v, rfl, p, vs, rfl, h1, r1⟩ := hx.one
      exact ⟨z, p, ys, rfl, rfl, .inl (.of (by rw [h1, strs_ok r1 e])), hz, k.fz wm rfl⟩
    · cases hg
  · obtain ⟨ys, e, hg⟩ := Option.bind_eq_some_iff.mp hg
    split at hg
    · rename_i hz
      cases hg
      obtain ⟨v, rfl, p, vs, rfl, h1, r1⟩ := hx.one
      exact ⟨z, p, ys, rfl, rfl, .inr (by rw [← strs_ok r1 e]; exact h1), hz, k.fz wm rfl⟩
    · cases hg
  · cases hg
@[simp] def gSindex (z : Str) : List D → Option RV
  | [.str b] => (Builtin.Str.occurrences z b 0 z.length 1).head?.map fun i => .fz (.int (i : Nat))
  | _ => none
theorem s_index : MtS X "str.index" gSindex := by
  refine ⟨_, mt_sindex, fun W H z ds xs r Q wm hx hg k => ?_⟩
  unfold gSindex at hg
  split at hg
  · obtain ⟨i, e, hg⟩ := Option.map_eq_some_iff.mp hg
    cases hg
    obtain ⟨v, rfl, h⟩ := hx.one
    cases (show v = .str _ from h)
    cases q : Builtin.Str.occurrences z _ 0 z.length 1 with
    | nil => rw [q] at e; cases e
    | cons j rest =>
      rw [q] at e
      cases e
      exact ⟨z, _, i, rest, rfl, rfl, q, k.fz wm rfl⟩
  · cases hg
/-- a tuple of whole numbers that the module holds -/
def rTI (K : PySem.W.Frag) : V → List V → Hp → VK → Prop := fun x xs H Q => ∃ (p : Addr) (ns : List Int) (i : Int), x = .ref p ∧ xs = [.int i] ∧ SqT K H p (ns.map V.int) ∧ i ∈ ns ∧ Q (.int (ns.idxOf i : Nat)) H
theorem mt_tupI : MtR X "tuple.index" (rTI X.K) := by
  intro pins s σ H x xs v us Q I rx rs h
  obtain ⟨p, ns, i, rfl, rfl, hq, hi, q⟩ := h
  cases rx
  obtain ⟨u, rfl, t, rfl⟩ := vals1 rs
  obtain ⟨its, r, pl, hz⟩ := I.tuple hq
  refine SeqAt.call_tuple_index (ks := ns) (k := i) pl ⟨by rw [← r.length, List.length_map], fun j h1 h2 => ?_⟩ hi ⟨.int _, H, I.tok _, ⟨_, rfl⟩, q⟩
  obtain ⟨w, hw, t', rw'⟩ := r.get (i := j) (x := .int ns[j]) (by simp [h2])
  have e := (List.getElem?_eq_some_iff.mp hw).2
  obtain ⟨b, hb, hbe⟩ := HT.eqAt_int X.A.in1 s ns[j] t' i t
  rw [e, rw']
  have : b = decide (ns[j] = i) := by
    cases b with
    | true => exact (decide_eq_true (hbe.mp rfl)).symm
    | false => exact (decide_eq_false fun z => Bool.noConfusion (hbe.mpr z)).symm
  rw [← this]
  exact hb
@[simp] def pTi (ns : List Int) (fa : FP) : FP := fun e => (fa e).bind fun r => r.i?.bind fun i => if i ∈ ns then some (.fz (.int (ns.idxOf i : Nat))) else none
theorem pp_tindex {x : Str} {px : Pos} {fa : FP} {A : Addr} (ns : List Int) (hm : X.mg x = some (.ref A)) (hl : ∃ o, X.K.lookup A = some o ∧ o.cls = .type "tuple" ∧ o.dict = none) (hq : ∀ H, SqT X.K H A (ns.map V.int)) (ha : PP X a fa) (hg : Gl X x := by rfl) (hd : (x == ("__debug__" : Str)) = false := by decide)
    (hty : typeOf (.builtin "tuple.index") = pure (.type "method_descriptor") := by rfl)
    (hbase : attributeBase (.Name x px) "index" X.env (eval (.Name x px) X.env) = eval (.Name x px) X.env := by rfl)
    (hfew : ((backTo cpos (starEach [a] X.env)).all (fun x => !x.1) && (backToKw cpos (keywordEach [] X.env)).all (fun x => x.1.isSome) && decide (([a] : List Expr).length + ([] : List Keyword).length + (if ([] : List Keyword).isEmpty then 0 else 1) < 30)) = true := by rfl)
    (hline : (apos.endLine == cpos.line) = true := by rfl) (hs : starEach [a] X.env = (false, eval a X.env) :: starEach [] X.env := by rfl) (hplain : (backTo cpos (starEach [] X.env)).any (·.1) = false := by rfl) :
    PP X (.Call (.Attribute (.Name x px) "index" apos) [a] [] cpos) (pTi ns fa) := by
  obtain ⟨t, pa, ka⟩ := ha.run
  refine PP.of ⟨_, pe_bm F.plainAttrs_tuple F.slot_tuple_index hty mt_tupI (pe_glob (v := .ref A) hg hm rfl hd) (pa_cons pa pa_nil hs) hbase hfew hline hs hplain, fun W H σ e Q r sr hf k => ?_⟩
  obtain ⟨r1, e1, hy⟩ := Option.bind_eq_some_iff.mp hf
  obtain ⟨i, e2, hw⟩ := Option.bind_eq_some_iff.mp hy
  have e3 := RV.i?_ok e2
  subst e3
  split at hw
  · rename_i hi
    cases hw
    refine ⟨.inr (.inl ⟨rfl, hl⟩), ka W H σ e _ _ sr e1 fun v W1 H1 g1 k1 => ?_⟩
    cases (show v = .int i from k1)
    exact ⟨A, ns, i, rfl, rfl, hq H1, hi, k _ W1 H1 g1 rfl⟩
  · cases hw
end
end DL

set_option maxHeartbeats 2000000
namespace DL
open PySem PySem.Spec PyProof.Rows L2

/-! ## x[::-1] -/
section
variable {prog : Program} {w : World} {A : Around} {E : Value → Shared → Prop} {s : Shared}
theorem places_rev (n : Nat) : Builtin.Slice.slicePlaces ((n : Int) - 1) (-1) (-1) = n := by
  unfold Builtin.Slice.slicePlaces
  have h1 : ¬ ((-1 : Int) > 0) := by decide
  simp only [h1, if_false]
  split
  · rw [show (- -1 : Int) = 1 by decide, Int.ediv_one]
    omega
  · omega
theorem applied_rev {sl : Addr} {vl vu vs : Value} {n : Nat} {Q : Int × Int × Nat → Shared → Prop} (hs : s.heap.IsSliceOf sl vl vu vs) (pl : IsPart vl none) (pu : IsPart vu none) (ps : IsPart vs (some (-1)))
    (h : Q ((n : Int) - 1, -1, n) s) : wpAny (model prog w) A (Builtin.Slice.sliceApplied (.ref sl) (pure (n : Int))) Q E s := by
  obtain ⟨os, hos, hcs, hds⟩ := id hs
  unfold Builtin.Slice.sliceApplied Builtin.Slice.sliceFields
  refine wpAny_bind (wpAny_bind (wpAny_field hos hds (x := vl) rfl (wpAny_bind (wpAny_field hos hds (x := vu) rfl (wpAny_bind (wpAny_field hos hds (x := vs) rfl (wpAny_pure ?_)))))))
  refine wpAny_bind (HT.slicePart_ ps ?_)
  show wpAny _ _ (if ((-1 : Int) == 0) = true then _ else _) _ _ s
  rw [if_neg (by decide)]
  refine wpAny_bind (HT.slicePart_ pl (wpAny_bind (HT.slicePart_ pu (wpAny_bind (wpAny_pure ?_)))))
  show wpAny _ _ (pure ((n : Int) - 1, (-1 : Int), Builtin.Slice.slicePlaces ((n : Int) - 1) (-1) (-1))) _ _ s
  rw [places_rev]
  exact wpAny_pure h
theorem fm_congr {α β : Type} {f g : α → Option β} : ∀ {l : List α}, (∀ a ∈ l, f a = g a) → l.filterMap f = l.filterMap g
  | [], _ => rfl
  | a :: l, h => by rw [List.filterMap_cons, List.filterMap_cons, h a List.mem_cons_self, fm_congr fun b hb => h b (List.mem_cons_of_mem _ hb)]
theorem pick_rev (xs : Array Value) : ((List.range xs.size).filterMap fun (m : Nat) => xs[((xs.size : Int) - 1 + (m : Int) * -1).toNat]?).toArray = xs.toList.reverse.toArray := by
  have e : (List.range xs.size).filterMap (fun (m : Nat) => xs[((xs.size : Int) - 1 + (m : Int) * -1).toNat]?) = ((List.range xs.size).map fun k => xs.size - 1 - k).filterMap (xs[·]?) := by
    rw [List.filterMap_map]
    refine fm_congr fun m hm => ?_
    have := List.mem_range.mp hm
    show xs[((xs.size : Int) - 1 + (m : Int) * -1).toNat]? = xs[xs.size - 1 - m]?
    rw [show ((xs.size : Int) - 1 + (m : Int) * -1).toNat = xs.size - 1 - m from by omega]
  rw [e, PySem.W.krv_range, List.filterMap_reverse, PySem.W.krv_all]
theorem item_tup_rev {t sl : Addr} {items : Array Value} {vl vu vs : Value} {Q : Value → Shared → Prop} (ht : IsTup s.heap t items) (hs : s.heap.IsSliceOf sl vl vu vs) (pl : IsPart vl none) (pu : IsPart vu none) (ps : IsPart vs (some (-1)))
    (h : Q (.ref s.heap.objs.size) { s with heap := s.heap.push { cls := .type "tuple", data := .seq items.toList.reverse.toArray } }) (hsz : items.size ≤ sizeLine) : wpAny (model prog w) A (getItem (.ref t) (.ref sl)) Q E s := by
  have fits : sizeOk (.seq items.toList.reverse.toArray) := by
    show items.toList.reverse.toArray.size ≤ sizeLine
    rw [List.size_toArray, List.length_reverse, Array.length_toList]
    exact hsz
  obtain ⟨os, hos, hcs, hds⟩ := id hs
  have tyS : s.TypeIs (.ref sl) "slice" := ⟨os, hos, hcs⟩
  unfold getItem
  try with_reducible refine wpAny_holding ?_
  first | refine wpAny_bind (wpAny_pure ?_) | skip
  refine wpAny_bind (wpAny_sequenceKey ht.typeIs (by decide) ?_)
  refine wpAny_bind (wpAny_callSpecial?_slot (name := Str.ofString "__getitem__") ht.typeIs PyProof.Rows.slot_tuple_getitem (wpAny_call_entry PyProof.Rows.slot_tuple_getitem ht.typeIs entry_tuple_getitem ?_ (args_tuple_getitem _ _)))
  show wpAny _ _ (Builtin.Tuple.tupleItemsOf (.ref t) >>= _) _ _ s
  refine wpAny_bind (tupleItemsOf_ ht ?_)
  refine wpAny_bind (wpAny_typeOf tyS ?_)
  rw [if_pos (by decide)]
  refine wpAny_bind (applied_rev hs pl pu ps ?_)
  have no1 : ¬ ((((items.size : Int) - 1) == 0 && (-1 : Int) == 1 && items.size == items.size) = true) := by
    intro q
    rw [Bool.and_eq_true, Bool.and_eq_true] at q
    exact absurd (eq_of_beq q.1.2) (by decide)
  show wpAny _ _ (if (((items.size : Int) - 1) == 0 && (-1 : Int) == 1 && items.size == items.size) = true then _ else _) _ _ s
  rw [if_neg no1, pick_rev]
  first
    | exact wpAny_bind (m := Builtin.Tuple.tupleExact _) (wpAny_newObj_type (wpAny_pure ⟨_, rfl, wpAny_pure h⟩) fits)
    | exact wpAny_bind (m := Builtin.Tuple.tupleExact _) (wpAny_newObj_type (wpAny_bind (wpAny_pure (wpAny_pure ⟨_, rfl, wpAny_pure h⟩))) fits)
    | exact wpAny_bind (wpAny_bind (m := Builtin.Tuple.tupleExact _) (wpAny_newObj_type (wpAny_pure (wpAny_pure ⟨_, rfl, wpAny_pure h⟩)) fits))
    | exact wpAny_bind (wpAny_bind (m := Builtin.Tuple.tupleExact _) (wpAny_newObj_type (wpAny_pure ⟨_, rfl, wpAny_pure h⟩) fits))
end
def revS (z : Str) : Str := ⟨z.cps.toList.reverse.toArray⟩
theorem pick_revS (z : Str) : ((Builtin.Str.strSliceIndices none none (-1) z.length).filterMap (z.cps[·]?)).toArray = z.cps.toList.reverse.toArray := by
  rw [PyProof.Rows.picked_rev, PySem.W.krv_range, List.filterMap_reverse]
  show ((List.range z.cps.size).filterMap (z.cps[·]?)).reverse.toArray = _
  rw [PySem.W.krv_all]
section
variable {X : Cx} {e : Expr} {k : Nat} {p1 p2 p3 pos : Pos} {fe : FP}
def tRv (K : PySem.W.Frag) (te : TE) : TE := fun σ H Q => te σ H fun x H1 => (∃ a xs, x = .ref a ∧ SqT K H1 a xs ∧ ∀ p, H1 p = none → Q (.ref p) (upd H1 p (.tup xs.reverse))) ∨ (∃ z, x = .str z ∧ z.length ≤ sizeLine ∧ Q (.str (revS z)) H1)
theorem pe_rv {te : TE} (he : PE X e te) : PE X (.Subscript e (.Slice none none (some (.UnaryOp .USub (.Constant (.int 1) k p1) p2)) p3) pos) (tRv X.K te) := by
  refine ⟨fun pins s σ H Q I h => ?_⟩
  refine Subscript_ (thn (he.run pins s σ H _ I h) fun v s1 ⟨x, H1, I1, r1, q1⟩ => ?_)
  have step : PO X (some (.UnaryOp .USub (.Constant (.int 1) k p1) p2)) (tPart (tUn (rU fun i => .int (-i)) (tC (.int 1)))) := po_some (pe_un un_neg pe_int)
  refine wpAny_Slice (thn (po_none.run pins s1 σ H1 (fun o H2 => o = none ∧ H2 = H1) I1 ⟨rfl, rfl⟩) fun vl s2 ⟨l, H2, I2, pl, el, e2⟩ => ?_)
  subst el e2
  refine thn (po_none.run pins s2 σ H2 (fun o H3 => o = none ∧ H3 = H2) I2 ⟨rfl, rfl⟩) fun vu s3 ⟨u, H3, I3, pu, eu, e3⟩ => ?_
  subst eu e3
  refine thn (step.run pins s3 σ H3 (fun o H4 => o = some (-1) ∧ H4 = H3) I3 ⟨1, rfl, -1, rfl, rfl, rfl⟩) fun vs s4 ⟨o, H4, I4, ps, eo, e4⟩ => ?_
  subst eo e4
  have I5 : Inv X pins σ H4 { s4 with heap := s4.heap.push { cls := .type "slice", data := .fields #[vl, vu, vs] } } := I4.kept (t' := s4.toks) fun b ob q => Heap.get?_push_of_some _ q
  have sl : ({ s4 with heap := s4.heap.push { cls := .type "slice", data := .fields #[vl, vu, vs] } } : Shared).heap.IsSliceOf s4.heap.objs.size vl vu vs := Heap.IsSliceOf.new ..
  rcases q1 with ⟨a, xs, ex, hx, q⟩ | ⟨z, ex, hz, q⟩
  · subst ex
    cases r1
    obtain ⟨its, r, ht, hz⟩ := I5.tuple hx
    have hlen := r.length
    show wpAny (model X.prog X.w) X.A (subscriptTail e (.Slice none none (some (.UnaryOp .USub (.Constant (.int 1) k p1) p2)) p3) (.ref a) (.ref s4.heap.objs.size)) (EP X pins σ Q) X.xe { s4 with heap := s4.heap.push { cls := .type "slice", data := .fields #[vl, vu, vs] } }
    refine tail_any (ops := [.ref a, .ref s4.heap.objs.size]) ht.typeIs PyProof.Rows.slot_tuple_getitem.lookup ?_ (by with_unfolding_all rfl)
    refine item_tup_rev ht sl pl pu ps ?_ (by rw [List.size_toArray]; omega)
    refine ⟨.ref _, _, I5.laid (t' := s4.toks) (o := .tup xs.reverse) (fun b ob q => Heap.get?_push_of_some _ q) (Nat.le_refl _) ?_, rfl, q _ (I5.hok.fresh (Nat.le_refl _))⟩
    exact ⟨by rw [List.length_reverse]; exact hz, _, r.reverse, IsTup.new _ _⟩
  · subst ex
    obtain ⟨t, rfl⟩ := r1
    show wpAny (model X.prog X.w) X.A (subscriptTail e (.Slice none none (some (.UnaryOp .USub (.Constant (.int 1) k p1) p2)) p3) (.str z t) (.ref s4.heap.objs.size)) (EP X pins σ Q) X.xe { s4 with heap := s4.heap.push { cls := .type "slice", data := .fields #[vl, vu, vs] } }
    refine tail_any (ops := [.ref s4.heap.objs.size, .str z t]) (typeIs_str _ _ _) F.slot_str_getitem.lookup ?_ (by with_unfolding_all rfl)
    obtain ⟨os, hos, hcs, hds⟩ := sl
    obtain ⟨l1, rfl, g1⟩ := IsPart.raw pl
    obtain ⟨l2, rfl, g2⟩ := IsPart.raw pu
    obtain ⟨l3, rfl, g3⟩ := IsPart.raw ps
    refine wpAny_getItem_str_slice (l := l1) (u := l2) (st := l3) ⟨os, hos, hcs, hds⟩ (by rw [g3]; rfl) ?_
    unfold sliceMade slicePicked
    rw [g1, g2, g3]
    show Made.post (if ((-1 : Int) == 1 && _) = true then _ else Made.str ⟨((Builtin.Str.strSliceIndices none none (-1) z.length).filterMap (z.cps[·]?)).toArray⟩) (EP X pins σ Q) _
    rw [if_neg (by simp), pick_revS]
    have hl : (revS z).length ≤ sizeLine := by
      show z.cps.toList.reverse.toArray.size ≤ sizeLine
      rw [List.size_toArray, List.length_reverse, Array.length_toList]
      exact hz
    exact ⟨hl, .str _, H4, I5.tok _, ⟨_, rfl⟩, q⟩
@[simp] def pRev (fe : FP) : FP := fun e => (fe e).bind fun r => match r.view with
  | .tup xs => some (.fz (.tup xs.reverse))
  | .str z => if z.length ≤ SZ then some (.fz (.str (revS z))) else none
  | _ => none
theorem pp_rev (he : PP X e fe) : PP X (.Subscript e (.Slice none none (some (.UnaryOp .USub (.Constant (.int 1) k p1) p2)) p3) pos) (pRev fe) := by
  obtain ⟨t, p, ke⟩ := he.run
  refine PP.of ⟨_, pe_rv p, fun W H σ e Q r sr hf kk => ?_⟩
  obtain ⟨r1, e1, hy⟩ := Option.bind_eq_some_iff.mp hf
  refine ke W H σ e _ r1 sr e1 fun v W1 H1 g1 k1 => ?_
  have hv := k1.vz
  have k' : KQ W1 X.K H1 r Q := fun v W' H' g2 k2 => kk v W' H' (g1.trans g2) (k2.back fun a h => g1.fresh h)
  revert hv hy
  generalize r1.view = d
  intro hy hv
  split at hy
  · cases hy
    obtain ⟨a, vs, rfl, h1, h2⟩ := hv
    exact .inl ⟨a, vs, rfl, h1, k'.tup g1.wm h2.reverse⟩
  · split at hy
    · rename_i z hz
      cases hy
      exact .inr ⟨z, hv, by rw [SZ_eq]; exact hz, k'.fz g1.wm rfl⟩
    · cases hy
  · cases hy
end
/-! ## zip -/
section
variable {X : Cx} {W : List Addr} {K : PySem.W.Frag} {H : Hp}
def zipD (xs ys : List D) : List D := List.zipWith (fun x y => D.tup [x, y]) xs ys
theorem zipD_at {xs ys : List D} {i : Nat} {d : D} (h : (zipD xs ys)[i]? = some d) : ∃ x y, xs[i]? = some x ∧ ys[i]? = some y ∧ d = .tup [x, y] := by
  unfold zipD at h
  rw [List.getElem?_zipWith] at h
  cases hx : xs[i]? with
  | none => rw [hx] at h; cases h
  | some x =>
    cases hy : ys[i]? with
    | none => rw [hx, hy] at h; cases h
    | some y =>
      rw [hx, hy] at h
      cases h
      exact ⟨x, y, rfl, rfl, rfl⟩
theorem zipD_len (xs ys : List D) : (zipD xs ys).length = min xs.length ys.length := by
  unfold zipD
  rw [List.length_zipWith]
theorem itAt_zipT {a b : Addr} {vs us : List V} {xs ys : List D} (wm : WM W H) (h1 : SqT K H a vs) (h2 : SqT K H b us) (r1 : RpL W K H xs vs) (r2 : RpL W K H ys us) : ItAt W K H (RZ.ItzT K a b) (zipD xs ys) := by
  refine ⟨fun i d e => ?_, vs, us, h1, h2, ?_⟩
  · obtain ⟨x, y, e1, e2, rfl⟩ := zipD_at e
    obtain ⟨v, v1, rv⟩ := r1.get e1
    obtain ⟨u, u1, ru⟩ := r2.get e2
    refine ⟨⟨vs, us, v, u, h1, h2, v1, u1⟩, fun z H' q => ?_⟩
    obtain ⟨T, p, q', rfl, hn, rfl, q1, q2⟩ := q
    have z1 := q1 vs h1
    have z2 := q2 us h2
    rw [v1] at z1
    rw [u1] at z2
    cases z1
    cases z2
    have g : Grow W H W (upd H T (.tup [v, u])) := .tup wm hn
    exact ⟨upd_keep hn, T, [v, u], rfl, .of upd_same, v, [u], rfl, Rp.mono (g.ex wm) x rv, u, [], rfl, Rp.mono (g.ex wm) y ru, rfl⟩
  · rw [zipD_len, r1.length, r2.length]
    omega
theorem itAt_zipL {a b : Addr} {vs us : List V} {xs ys : List D} (wm : WM W H) (h1 : SqL K H a vs) (h2 : SqL K H b us) (r1 : RpL W K H xs vs) (r2 : RpL W K H ys us) : ItAt W K H (L2.Itz K a b) (zipD xs ys) := by
  refine ⟨fun i d e => ?_, vs, us, h1, h2, ?_⟩
  · obtain ⟨x, y, e1, e2, rfl⟩ := zipD_at e
    obtain ⟨v, v1, rv⟩ := r1.get e1
    obtain ⟨u, u1, ru⟩ := r2.get e2
    refine ⟨⟨vs, us, v, u, h1, h2, v1, u1⟩, fun z H' q => ?_⟩
    obtain ⟨T, p, q', rfl, hn, rfl, q1, q2⟩ := q
    have z1 := q1 vs h1
    have z2 := q2 us h2
    rw [v1] at z1
    rw [u1] at z2
    cases z1
    cases z2
    have g : Grow W H W (upd H T (.tup [v, u])) := .tup wm hn
    exact ⟨upd_keep hn, T, [v, u], rfl, .of upd_same, v, [u], rfl, Rp.mono (g.ex wm) x rv, u, [], rfl, Rp.mono (g.ex wm) y ru, rfl⟩
  · rw [zipD_len, r1.length, r2.length]
    omega
@[simp] def zipR : List RV → Option (List D × Bool)
  | [.fz (.tup xs), .fz (.tup ys)] => some (zipD xs ys, true)
  | [.fz (.lst xs), .fz (.lst ys)] => some (zipD xs ys, true)
  | _ => none
@[simp] def iZip (fs : FA) : FI := fun e => (fs e).bind zipR
theorem ip_zip {a b : Expr} {p pos tpos : Pos} {elts : List Expr} {kk : Nat} {fs : FA} (hm : X.mg "zip" = none) (ha : PPs X [a, b] fs) (hg : Gl X "zip" := by rfl)
    (hs : starEach [a, b] X.env = (false, eval a X.env) :: starEach [b] X.env := by rfl) (hpl : (backTo pos (starEach [b] X.env)).any (·.1) = false := by rfl) : IP X (.Tuple elts kk tpos) (.Call (.Name "zip" p) [a, b] [] pos) (iZip fs) := by
  refine ⟨⟨fun pins s σ H R I ⟨W, e, ds, bb, sr, hf, k⟩ => ?_⟩⟩
  obtain ⟨rs, e1, hy⟩ := Option.bind_eq_some_iff.mp hf
  refine (RZ.pi_zipA hg hm ha.pa hs hpl).run pins s σ H R I ⟨W, e, rs, sr, e1, fun vs W1 H1 g1 k1 => ?_⟩
  unfold zipR at hy
  split at hy
  · cases hy
    obtain ⟨v, us, rfl, ⟨a, xs, rfl, h1, r1⟩, v', us', rfl, ⟨b, ys, rfl, h2, r2⟩, en⟩ := k1
    cases (show us' = [] from en)
    refine ⟨a, b, xs, ys, rfl, .inr ⟨h1, h2, k _ W1 H1 g1 fun W2 H2 h3 => ?_⟩⟩
    rcases h3 with g2 | ⟨_, x2, wm2⟩
    · exact itAt_zipT g2.wm ((g2.ex g1.wm).sqT h1) ((g2.ex g1.wm).sqT h2) (RpL.mono (g2.ex g1.wm) _ r1) (RpL.mono (g2.ex g1.wm) _ r2)
    · exact itAt_zipT wm2 (x2.sqT h1) (x2.sqT h2) (RpL.mono x2 _ r1) (RpL.mono x2 _ r2)
  · cases hy
    obtain ⟨v, us, rfl, ⟨a, xs, rfl, h1, r1⟩, v', us', rfl, ⟨b, ys, rfl, h2, r2⟩, en⟩ := k1
    cases (show us' = [] from en)
    refine ⟨a, b, xs, ys, rfl, .inl ⟨h1.seq, h2.seq, k _ W1 H1 g1 fun W2 H2 h3 => ?_⟩⟩
    rcases h3 with g2 | ⟨_, x2, wm2⟩
    · exact itAt_zipL g2.wm ((g2.ex g1.wm).lsF h1).seq ((g2.ex g1.wm).lsF h2).seq (RpL.mono (g2.ex g1.wm) _ r1) (RpL.mono (g2.ex g1.wm) _ r2)
    · exact itAt_zipL wm2 (x2.lsF h1).seq (x2.lsF h2).seq (RpL.mono x2 _ r1) (RpL.mono x2 _ r2)
  · cases hy
end
end DL

set_option maxHeartbeats 4000000
namespace DL
open PySem PySem.Spec PyProof.Rows L2
open PySem.W (Frag findIn typeIn keepIn subIn hasDictIn clsIn specialIn takesIn mroIn codeIn fnOf)
open PySem.HandSPX (refsVE refsVE_contains)

/-! ## own exceptions with one field -/
def eiA (f : Str) (p1 p2 : Pos) : Arguments := { posonlyargs := [], args := [{ arg := "self", annotation := none, pos := p1 }, { arg := f, annotation := none, pos := p2 }], vararg := none, kwonlyargs := [], kw_defaults := [], kwarg := none, defaults := [] }
def eiB (f : Str) (q1 q2 q3 q4 : Pos) : List Stmt := [.Assign [.Attribute (.Name "self" q1) f q2] (.Name f q3) q4]
def eiS (f : Str) : Scope := { kind := .function, names := [(PySem.Str.ofString "self", .local), (f, .local)], isGenerator := false, isCoroutine := false, more := [] }
def EBind (f qual : Str) : Prop := ∀ (kV doc pm : Value) (an : Option Addr) (cdv ct x v : Value) (p1 p2 q1 q2 q3 q4 : Pos),
  bindArgs (fnOf "__init__" qual (eiA f p1 p2) (eiB f q1 q2 q3 q4) (eiS f) .none kV doc pm an cdv ct) ⟨[x, v], []⟩ = pure [(PySem.Str.ofString "self", x), (f, v)]
/-- what K says of the class nm, at C, with its field f and its __init__ at fI -/
structure EC (K : Frag) (mg : Str → Option Value) (nm f qual : Str) (C fI : Addr) : Prop where
  ns : (f == ("self" : Str)) = false
  gC : mg nm = some (.ref C)
  cls : ∃ nm q N bs bm sn sub ab col dd k0 k1 k2 k3 k5, K.lookup C = some (excClassObj nm q C N bs bm true sn sub ab col dd k0 k1 k2 k3 k5 "ValueError.__new__") ∧ refsVE bm = true
  sa : findIn K (.ref C) "__setattr__" = some (some (.builtin "object.__setattr__"))
  ga : findIn K (.ref C) "__getattribute__" = some (some (.builtin "BaseException.__getattribute__"))
  gg : findIn K (.ref C) "__getattr__" = some none
  noN : findIn K (.ref C) f = some none
  iC : findIn K (.ref C) "__init__" = some (some (.ref fI))
  tC : typeIn K (.ref fI) = some (.type "function")
  kC : keepIn K (.ref C) = true
  exC : subIn K (.ref C) (.type "BaseException") = some true
  tyC : typeIn K (.ref C) = some (.type "type")
  hdC : hasDictIn K C = true
  ca : findIn K (.ref C) "__class__" = some (some (.builtin "object.__class__"))
  cn : specialIn K (.builtin "object.__class__") "__get__" = some (some (.builtin "getset_descriptor.__get__"))
  ck : takesIn K (.builtin "object.__class__") = some true
  cm : mroIn K C (.type "object") = some true
  bi : EBind f qual
  fn : ∃ (oc : Value) (od : Option Addr) (kV doc pm : Value) (an : Option Addr) (cdv ct : Value) (osl : Array (Option Value)) (p1 p2 q1 q2 q3 q4 : Pos),
    K.lookup fI = some ⟨oc, od, .func (fnOf "__init__" qual (eiA f p1 p2) (eiB f q1 q2 q3 q4) (eiS f) .none kV doc pm an cdv ct), osl⟩ ∧ codeIn K cdv qual = true
def clsB (K : Frag) (C : Addr) : Bool := match K.lookup C with
  | some ⟨.type "type", _, .cls cd, sl⟩ => (match cd.mro, sl.toList with
    | .ref C' :: bm, [_, _, _, _, some (.builtin n), _] => C' == C && n == "ValueError.__new__" && !cd.hasDel && cd.hasDict && refsVE bm
    | _, _ => false)
  | _ => false
theorem clsB_ok {K : Frag} {C : Addr} (q : clsB K C = true) : ∃ nm q N bs bm sn sub ab col dd k0 k1 k2 k3 k5, K.lookup C = some (excClassObj nm q C N bs bm true sn sub ab col dd k0 k1 k2 k3 k5 "ValueError.__new__") ∧ refsVE bm = true := by
  unfold clsB at q
  split at q
  rotate_left
  · cases q
  rename_i dd cd sl ho
  split at q
  rotate_left
  · cases q
  rename_i C' bm k0 k1 k2 k3 n k5 hm hs
  simp only [Bool.and_eq_true, beq_iff_eq, Bool.not_eq_true'] at q
  obtain ⟨⟨⟨⟨rfl, rfl⟩, hdel⟩, hdi⟩, ht⟩ := q
  obtain ⟨nm, bs, mro, ns, qn, hd, sn, sub, ab, col, del⟩ := cd
  dsimp only at hm hdel hdi
  subst hm hdel hdi
  have hsl : sl = #[k0, k1, k2, k3, some (.builtin "ValueError.__new__"), k5] := by
    obtain ⟨l⟩ := sl
    simp only at hs
    rw [hs]
  subst hsl
  exact ⟨nm, qn, ns, bs, bm, sn, sub, ab, col, dd, k0, k1, k2, k3, k5, ho, ht⟩
def eqq (a b : Option (Option Value)) : Bool := decide (a = b)
def eqv? (a b : Option Value) : Bool := decide (a = b)
/-- all but the written __init__ -/
def ecB (K : Frag) (nm f : Str) : Bool := clsB K (He.ga K nm) && (eqq (findIn K (.ref (He.ga K nm)) "__setattr__") (some (some (.builtin "object.__setattr__"))) && (eqq (findIn K (.ref (He.ga K nm)) "__getattribute__") (some (some (.builtin "BaseException.__getattribute__")))
  && (eqq (findIn K (.ref (He.ga K nm)) "__getattr__") (some none) && (eqq (findIn K (.ref (He.ga K nm)) f) (some none) && (eqq (findIn K (.ref (He.ga K nm)) "__init__") (some (some (.ref (He.ma K (He.ga K nm) "__init__")))) && (eqv? (typeIn K (.ref (He.ma K (He.ga K nm) "__init__"))) (some (.type "function"))
  && (keepIn K (.ref (He.ga K nm)) && (decide (subIn K (.ref (He.ga K nm)) (.type "BaseException") = some true) && (eqv? (typeIn K (.ref (He.ga K nm))) (some (.type "type")) && (hasDictIn K (He.ga K nm) && (eqq (findIn K (.ref (He.ga K nm)) "__class__") (some (some (.builtin "object.__class__")))
  && (eqq (specialIn K (.builtin "object.__class__") "__get__") (some (some (.builtin "getset_descriptor.__get__"))) && (decide (takesIn K (.builtin "object.__class__") = some true) && decide (mroIn K (He.ga K nm) (.type "object") = some true))))))))))))))
theorem ec_of {K : Frag} {mg : Str → Option Value} {nm f qual : Str} {params : Arguments} {body : List Stmt} {scope : Scope} {kws : List (Str × V)} {fd : FuncData} {p1 p2 q1 q2 q3 q4 : Pos} (hns : (f == ("self" : Str)) = false) (hm : mg nm = some (.ref (He.ga K nm))) (h : ecB K nm f = true)
    (FD : FunD K "__init__" qual params body scope [] kws (He.ma K (He.ga K nm) "__init__") fd) (e1 : params = eiA f p1 p2) (e2 : body = eiB f q1 q2 q3 q4) (e3 : scope = eiS f) (bi : EBind f qual := by intro _ _ _ _ _ _ _ _ _ _ _ _ _ _; first | rfl | with_unfolding_all rfl) : EC K mg nm f qual (He.ga K nm) (He.ma K (He.ga K nm) "__init__") := by
  unfold ecB at h
  simp only [Bool.and_eq_true] at h
  obtain ⟨a1, a2, a3, a4, a5, a6, a7, a8, a9, a10, a11, a12, a13, a14, a15⟩ := h
  obtain ⟨oc, od, dV, kV, doc, pm, an, cdv, ct, osl, e, lk, hcd, hD, hK⟩ := FD.ex
  have hd : dV = .none := by
    rcases hD with ⟨_, z⟩ | ⟨z, _⟩
    · exact z
    · exact absurd rfl z
  subst e hd e1 e2 e3
  exact ⟨hns, hm, clsB_ok a1, of_decide_eq_true a2, of_decide_eq_true a3, of_decide_eq_true a4, of_decide_eq_true a5, of_decide_eq_true a6, of_decide_eq_true a7, a8, of_decide_eq_true a9, of_decide_eq_true a10, a11, of_decide_eq_true a12, of_decide_eq_true a13,
    of_decide_eq_true a14, of_decide_eq_true a15, bi, oc, od, kV, doc, pm, an, cdv, ct, osl, p1, p2, q1, q2, q3, q4, lk, hcd⟩
/-! ### it is made -/
/-- behind __init__ -/
structure EInit (h h' : Heap) (x C dx t1 : Addr) (f : Str) (v : Value) : Prop where
  keep : ∀ b o, b ≠ x → h.get? b = some o → h'.get? b = some o
  obj : h'.get? x = some { cls := .ref C, dict := some dx, data := .fields #[.ref t1, .none, .none, .none, .bool false, .none] }
  big : h.objs.size ≤ dx
  ne : dx ≠ x
  ns : h'.Ns1 dx (fun y => if y = f then some v else none)
structure EMade (h h' : Heap) (e C d : Addr) (f : Str) (v : Value) : Prop where
  keep : ∀ b o, h.get? b = some o → h'.get? b = some o
  new : h.objs.size ≤ e
  obj : ∃ oe vs, h'.get? e = some oe ∧ oe.cls = .ref C ∧ oe.dict = some d ∧ oe.data = .fields vs ∧ vs[1]? = some .none
  big : h.objs.size ≤ d
  ne : d ≠ e
  ns : h'.Ns1 d (fun y => if y = f then some v else none)
section
variable {prog : Program} {w : World} {A : Around} {E : Value → Shared → Prop} {R : Result → Shared → Prop} {s : Shared} {K : Frag} {mg : Str → Option Value} {C fI : Addr} {nm f qual : Str}
theorem ld_loc {M : Model} {s : Shared} {name : Str} {scope : Scope} {L a : Addr} {cd : Value} {m : Str → Option Value} {x : Str} {pos : Pos} {v : Value} {Q : Value → Shared → Prop} {A : Around} {E : Value → Shared → Prop} (hn : s.heap.Ns L m) (hv : m x = some v) (h : Q v s)
    (hk : scope.kind = .function) (hl : (envOfC name scope L a cd).kindOf x = some .local) (hd : (x == ("__debug__" : Str)) = false) : wpAny M A (eval (.Name x pos) (envOfC name scope L a cd)) Q E s := wpAny_Name (wpAny_loadName_local hk hl hn hv h) hd
theorem e_init (T : EC K mg nm f qual C fI) (hdb : (f == ("__debug__" : Str)) = false) {x t0 : Addr} {v : Value} (X : K.In s.heap) (lim : s.heap.NoLimit) (hx : s.heap.get? x = some (HandSPX.excO C t0)) (hnx : K.lookup x = none) (room : A.depth < recursionLimit)
    (hq : ∀ h' tk dx, EInit s.heap h' x C dx t0 f v → R (.ok (.ret .none)) { s with heap := h', toks := tk }) : codeAny (model prog w) A (.call (.ref fI) ⟨[.ref x, v], []⟩) R s := by
  obtain ⟨oc, od, kV, doc, pm, an, cdv, ct, osl, p1, p2, q1, q2, q3, q4, ho, hcd⟩ := T.fn
  obtain ⟨nm', q, N, bs, bm, sn, sub, ab, col, dd, k0, k1, k2, k3, k5, hC, hbm⟩ := T.cls
  have fs : (f == PySem.Str.ofString "self") = false := T.ns
  have sf : (PySem.Str.ofString "self" == f) = false := by rw [beq_eq_false_iff_ne] at fs ⊢; exact fun z => fs z.symm
  have look : ∀ y, (eiS f).names.lookup y = if y == PySem.Str.ofString "self" then some .local else if y == f then some .local else none := fun y => by
    show List.lookup y [(PySem.Str.ofString "self", NameKind.local), (f, .local)] = _
    unfold List.lookup
    cases y == PySem.Str.ofString "self" with
    | true => rfl
    | false =>
      unfold List.lookup
      cases y == f <;> rfl
  have lf : (eiS f).names.lookup f = some .local := by rw [look, fs]; simp
  have ls : (eiS f).names.lookup (PySem.Str.ofString "self") = some .local := by rw [look]; simp
  have clsd : clsIn K C = some { name := nm', bases := bs, mro := .ref C :: bm, ns := N, qualname := q, hasDict := true, slotNames := sn, subclasses := sub, abstract := ab, collection := col, hasDel := false } := by unfold clsIn; rw [hC] <;> rfl
  refine Att.call_fn (binds := [(PySem.Str.ofString "self", .ref x), (f, v)]) X lim ho hcd room (BindsTo.of_eq (T.bi kV doc pm an cdv ct (.ref x) v p1 p2 q1 q2 q3 q4)) (by simp [lf, ls]) (fun s₁ IC => ?_) rfl rfl rfl
  obtain ⟨h1, tk1, rfl⟩ := IC.toInCall.same
  have kp : ∀ b o, s.heap.get? b = some o → h1.get? b = some o := IC.toInCall.keep
  have hn := IC.toInCall.ns
  have X1 : K.In h1 := X.keeps kp
  have hx1 := kp _ _ hx
  have nd : [PySem.Str.ofString "self", f].Nodup := by
    rw [List.nodup_cons]
    refine ⟨fun z => ?_, by simp⟩
    rw [List.mem_singleton] at z
    rw [z] at sf
    simp at sf
  show wpAny _ _ (execs _ _) _ _ _
  refine wpAny_execs_cons (plainObj_wpAny_Assign_Attribute ?_)
  refine ld_loc (v := v) hn (bindL_get (P := [PySem.Str.ofString "self", f]) (vs := [.ref x, v]) (i := 1) nd rfl rfl lf) ?_ rfl lf hdb
  refine ld_loc (v := .ref x) hn (bindL_get (P := [PySem.Str.ofString "self", f]) (vs := [.ref x, v]) (i := 0) nd rfl rfl ls) ?_ rfl ls (by decide)
  refine PySem.W.set_plain X1 (ox := HandSPX.excO C t0) (od := none) ⟨hx1, rfl, rfl, trivial⟩ T.sa ?_
  refine HandSPX.exc_osa X1 hx1 clsd (show refsVE (.ref C :: bm) = true from hbm) rfl T.noN (fun h3 tk3 dx k3 dn dne hx3 hn3 => ?_)
  show wpAny _ _ (execs _ _) _ _ _
  have z : s.heap.objs.size < h1.objs.size := hn.lt
  exact wpAny_execs_nil (hq h3 tk3 dx ⟨fun b o hb e => k3 b o hb (kp b o e), hx3, Nat.le_of_lt (Nat.lt_of_lt_of_le z dn), dne, hn3⟩)
theorem e_made (T : EC K mg nm f qual C fI) (hdb : (f == ("__debug__" : Str)) = false) {v : Value} (X : K.In s.heap) (lim : s.heap.NoLimit) (room : A.depth + 1 < recursionLimit)
    (hq : ∀ h' tk e d, EMade s.heap h' e C d f v → R (.ok (.ret (.ref e))) { s with heap := h', toks := tk }) : codeAny (model prog w) A (.call (.ref C) ⟨[v], []⟩) R s := by
  obtain ⟨nm', q, N, bs, bm, sn, sub, ab, col, dd, k0, k1, k2, k3, k5, hC, hbm⟩ := T.cls
  obtain ⟨hp, g, dr, tk, os⟩ := s
  have kp : ∀ b o, hp.get? b = some o → ((hp.push (PySem.W.kdv_tup [v])).push (HandSPX.excO C hp.objs.size)).get? b = some o := fun b o e => Heap.get?_push_of_some _ (Heap.get?_push_of_some _ e)
  have got : ((hp.push (PySem.W.kdv_tup [v])).push (HandSPX.excO C hp.objs.size)).get? (hp.objs.size + 1) = some (HandSPX.excO C hp.objs.size) := by heap_get
  have notK : K.lookup (hp.objs.size + 1) = none := by
    cases e : K.lookup (hp.objs.size + 1) with
    | none => rfl
    | some o =>
      have z : hp.get? (hp.objs.size + 1) = some o := X _ _ e
      exact absurd (Nat.lt_of_succ_lt (Heap.lt_size z)) (Nat.lt_irrefl _)
  refine HandSPX.call_own PySem.F.excBase_ValueError (fun T => refsVE_contains T bm hbm) (X _ _ hC) (PySem.W.looks_findIn X T.iC) (fun self => PySem.W.bind_fn X self T.tC) (by rw [sizeLine_eq]; exact (by decide : 1 ≤ 16777216)) ?_
  refine e_init (s := ⟨(hp.push (PySem.W.kdv_tup [v])).push (HandSPX.excO C hp.objs.size), g, dr, tk, os⟩) T hdb (X.keeps kp) (lim.keeps kp) got notK ?_ fun h' tk' dx ⟨k', hx, dn, dne, hns⟩ => ?_
  · show A.depth + 1 < recursionLimit
    exact room
  · have old : ∀ b o, hp.get? b = some o → h'.get? b = some o := fun b o e => k' b o (Nat.ne_of_lt (Nat.lt_succ_of_lt (Heap.lt_size e))) (kp b o e)
    have z : hp.objs.size + 1 + 1 ≤ dx := by
      first
        | (simpa only [Heap.size_push] using dn)
        | exact dn
    exact ⟨rfl, hq h' tk' (hp.objs.size + 1) dx ⟨old, Nat.le_succ _, ⟨_, _, hx, rfl, rfl, rfl, rfl⟩, (by show hp.objs.size ≤ dx; omega), dne, hns⟩⟩
end
theorem relO_one {v : V} {v' : Value} {g : Str} (r : RelV v v') (f : Str) : RelO (List.lookup f [(g, v)]) (if f = g then some v' else none) := by
  by_cases hw : f = g
  · subst hw
    rw [if_pos rfl]
    have q : List.lookup f [(f, v)] = some v := by simp [List.lookup]
    rw [q]
    exact r
  · rw [if_neg hw]
    have qw : (f == g) = false := by simpa using hw
    have q2 : List.lookup f [(g, v)] = none := by simp [List.lookup, qw]
    rw [q2]
    trivial
section
variable {X : Cx} {C fI : Addr} {nm f qual : Str} {Wx : WX} {lk : List Nat} {a : Expr} {fa : FM}
def tMkE (f : Str) (C : Addr) (ta : TA) : St → Hp → XK → Prop := fun σ H Q => ta σ H fun vs H1 => ∃ v, vs = [v] ∧ ∀ d, H1 d = none → Q (.ref C) (some d) (upd H1 d (.xd [(f, v)]))
theorem pmk_e {ta : TA} {p pos : Pos} {k : Nat} (T : EC X.K X.mg nm f qual C fI) (hdb : (f == ("__debug__" : Str)) = false) (hr : Room k X.A) (ha : PA X [a] ta) (hg : Gl X nm) (hdn : (nm == ("__debug__" : Str)) = false)
    (he : starEach (a :: []) X.env = (false, eval a X.env) :: starEach [] X.env := by rfl) (hpl : (backTo pos (starEach [] X.env)).any (·.1) = false := by rfl) : PMk X (.Call (.Name nm p) [a] [] pos) (tMkE f C ta) := by
  intro pins s σ H Q I h
  refine wpAny_Call_Name_kw (ld_glob I hg T.gC ?_ hdn)
  refine PySem.W.callWith_K (h₀ := X.base) I.ok.mod.kin T.kC (thn (ha.run pos pins s σ H _ I h) fun us s1 hh => ?_) he hpl
  obtain ⟨vs, H1, I1, r1, v, ev, q1⟩ := hh
  subst ev
  refine ⟨I1.kIn, ?_⟩
  cases r1 with
  | cons rv rn =>
    rename_i v' us'
    cases rn
    show wpAny _ _ (call (.ref C) [v']) _ _ _
    have lim := I1.nolimit
    obtain ⟨hp, g, dr, tk, os⟩ := s1
    refine wpAny_call (e_made T hdb I1.kIn lim (by have := hr.dp; omega) fun h' tk' e d M => ?_)
    show MkP X pins σ Q (.ref e) ⟨h', g, dr, tk', os⟩
    obtain ⟨oe, fv, hoe, hc, hd, hdat, h1⟩ := M.obj
    have hns := M.ns
    obtain ⟨G', g1, g2⟩ := restrict h' fun b => decide (b ≠ e)
    have gk : ∀ b, b ≠ e → G'.get? b = h'.get? b := fun b hb => g1 b (decide_eq_true hb)
    have ge : G'.get? e = none := g2 e (by simp)
    have old : ∀ b o, hp.get? b = some o → G'.get? b = some o := fun b o q => (gk b (Nat.ne_of_lt (Nat.lt_of_lt_of_le (Heap.lt_size q) M.new))).trans (M.keep b o q)
    have ob : ObjOk X.prog X.w (upd H1 d (.xd [(f, v)])) G' d (.xd [(f, v)]) := ⟨_, hns.at (fun o q => (gk d M.ne).trans q), fun y => relO_one rv y⟩
    have J : Inv X pins σ (upd H1 d (.xd [(f, v)])) ⟨G', g, dr, tk', os⟩ := I1.laid (t' := tk') old M.big ob
    refine ⟨e, oe, fv, ⟨G', g, dr, tk', os⟩, _, .ref C, some d, rfl, J, fun b o q => ?_, ge, hoe, ⟨hc, hd⟩, hdat, h1, ?_, rfl, I1.bare, raises_own T.exC T.tyC, q1 d (I1.hok.fresh M.big)⟩
    · by_cases hb : b = e
      · have q' : G'.get? b = some o := q
        rw [hb, ge] at q'
        cases q'
      · exact (gk b hb).symm.trans q
    · rw [upd_ne (Ne.symm M.ne)]
      exact I1.hok.fresh M.new
/-- raise Nm(a) -/
@[simp] def sRaise (nm f : Str) (fa : FM) : FS := fun e => (fa e).st fun s e1 => .ex ⟨nm, [(f, s.view)]⟩ e1
theorem sd_raise {p pos pos2 : Pos} {k : Nat} (hc : X.calm = true) (T : EC X.K X.mg nm f qual C fI) (hr : Room k X.A) (tk : Takes X Wx) (ha : PM X Wx a fa) (hdb : (f == ("__debug__" : Str)) = false := by decide) (hg : Gl X nm := by rfl) (hdn : (nm == ("__debug__" : Str)) = false := by decide)
    (he : starEach (a :: []) X.env = (false, eval a X.env) :: starEach [] X.env := by rfl) (hpl : (backTo pos (starEach [] X.env)).any (·.1) = false := by rfl) : SD X Wx lk (.Raise (some (.Call (.Name nm p) [a] [] pos)) none pos2) (sRaise nm f fa) := by
  obtain ⟨t, pa, ka⟩ := ha.run
  refine SD.of ⟨_, ps_raise hc tk (pmk_e T hdb hr (pa_cons pa pa_nil he) hg hdn he hpl), fun W H σ e D sr h => ?_⟩
  refine ka W H σ e _ sr (DK.st sr.wm h fun s v e1 W1 H1 sr1 x1 r h1 => ?_)
  refine ⟨v, rfl, fun d hd => ?_⟩
  have g : Grow W1 H1 W1 (upd H1 d (.xd [(f, v)])) := .of sr1.wm (upd_keep hd)
  exact h1 (.ref C) (some d) W1 _ σ (g.sr sr1) (g.fx sr1) (fun _ _ => rfl) ⟨T.gC, .inr ⟨d, _, rfl, upd_same, rfl, v, [], rfl, Rp.mono (g.ex sr1.wm) _ r, rfl⟩⟩
end
end DL

set_option maxHeartbeats 4000000
namespace DL
open PySem PySem.Spec PyProof.Rows L2

/-! ## in an except suite -/
def tX (K : PySem.W.Frag) (mg : Str → Option Value) (i : Nat) (a : Addr) (cls : Value) (d : Option Addr) (f : XD → FP) : TE := fun σ H Q => ∃ (W : List Addr) (e : En) (x : XD) (r : RV), SR W K H σ e ∧ σ[i]? = some (some (.ref a)) ∧ XR mg W K H x cls d ∧ f x e = some r ∧
  ∀ v W' H', Grow W H W' H' → RVok W' K H H' r v → Q v H'
/-- the suite's context -/
abbrev Cx.su (X : Cx) (a : Addr) (oe : Obj) (pn : List (Addr × Obj)) : Cx := X.suite a ((a, oe) :: pn)
/-- whatever exception is held -/
structure PX (X : Cx) (i : Nat) (ex : Expr) (f : XD → FP) : Prop where
  run : ∀ (a : Addr) (oe : Obj) (cls : Value) (d : Option Addr) (pn : List (Addr × Obj)), Zc cls d oe → (∃ vs, oe.data = .fields vs) → PE (X.suite a ((a, oe) :: pn)) ex (tX X.K X.mg i a cls d f)
structure PXs (X : Cx) (i : Nat) (es : List Expr) (f : XD → FA) : Prop where
  run : ∀ (a : Addr) (oe : Obj) (cls : Value) (d : Option Addr) (pn : List (Addr × Obj)), Zc cls d oe → (∃ vs, oe.data = .fields vs) → PA (X.suite a ((a, oe) :: pn)) es (fun σ H Q => ∃ (W : List Addr) (e : En) (x : XD) (rs : List RV), SR W X.K H σ e ∧ σ[i]? = some (some (.ref a)) ∧
    XR X.mg W X.K H x cls d ∧ f x e = some rs ∧ ∀ vs W' H', Grow W H W' H' → RVs W' X.K H H' rs vs → Q vs H')
section
variable {W W' : List Addr} {K : PySem.W.Frag} {mg : Str → Option Value} {H H' : Hp} {x : XD} {cls : Value} {d : Option Addr}
theorem XR.grow (g : Grow W H W' H') (wm : WM W H) (r : XR mg W K H x cls d) : XR mg W' K H' x cls d := by
  obtain ⟨h1, h2⟩ := r
  refine ⟨h1, ?_⟩
  rcases h2 with ⟨a, b⟩ | ⟨dd, fv, e1, e2, e3, e4⟩
  · exact .inl ⟨a, b⟩
  · exact .inr ⟨dd, fv, e1, g.keep _ _ e2, e3, RpL.mono (g.ex wm) _ e4⟩
end
section
variable {X : Cx} {i : Nat} {a : Expr} {es : List Expr} {fa : FP} {fx : XD → FP} {fs : XD → FA} {pos : Pos}
theorem px_pp (h : ∀ (a' : Addr) (oe : Obj) (pn : List (Addr × Obj)), PP (X.suite a' ((a', oe) :: pn)) a fa) : PX X i a (fun _ => fa) :=
  ⟨fun a' oe cls d pn hz hf => ⟨fun pins s σ H Q I ⟨W, e, x, r, sr, hi, xr, hfx, k⟩ => (h a' oe pn).pe.run pins s σ H Q I ⟨W, e, r, sr, hfx, k⟩⟩⟩
theorem pxs_nil : PXs X i [] (fun _ => aNil) :=
  ⟨fun a' oe cls d pn hz hf => ⟨fun pos pins s σ H Q I ⟨W, e, x, rs, sr, hi, xr, hfx, k⟩ => by cases hfx; exact pa_nil.run pos pins s σ H Q I (k [] W H (.refl sr.wm) rfl)⟩⟩
theorem pxs_cons (ha : PX X i a fx) (hr : PXs X i es fs) (hs : ∀ (a' : Addr) (oe : Obj) (pn : List (Addr × Obj)), starEach (a :: es) (X.suite a' ((a', oe) :: pn)).env = (false, eval a (X.suite a' ((a', oe) :: pn)).env) :: starEach es (X.suite a' ((a', oe) :: pn)).env := by intro _ _ _; rfl) :
    PXs X i (a :: es) (fun x => aCons (fx x) (fs x)) := by
  refine ⟨fun a' oe cls d pn hz hf => ⟨fun pos pins s σ H Q I ⟨W, e, x, rs, sr, hi, xr, hfx, k⟩ => ?_⟩⟩
  obtain ⟨r1, e1, hy⟩ := Option.bind_eq_some_iff.mp hfx
  obtain ⟨r2, e2, hw⟩ := Option.map_eq_some_iff.mp hy
  subst hw
  refine (pa_cons (ha.run a' oe cls d pn hz hf) (hr.run a' oe cls d pn hz hf) (hs a' oe pn)).run pos pins s σ H Q I ⟨W, e, x, r1, sr, hi, xr, e1, fun v W1 H1 g1 k1 => ?_⟩
  exact ⟨W1, e, x, r2, g1.sr sr, hi, xr.grow g1 sr.wm, e2, fun vs W' H' g2 k2 => k _ W' H' (g1.trans g2) ⟨v, vs, rfl, k1.grow g2 g1.wm, k2.back fun a h => g1.fresh h⟩⟩
theorem px_lst (h : PXs X i es fs) : PX X i (.List es pos) (fun x => pLst (fs x)) := by
  refine ⟨fun a' oe cls d pn hz hf => ⟨fun pins s σ H Q I ⟨W, e, x, r, sr, hi, xr, hfx, k⟩ => (pe_lst (h.run a' oe cls d pn hz hf)).run pins s σ H Q I ?_⟩⟩
  obtain ⟨rs, e1, hy⟩ := Option.bind_eq_some_iff.mp hfx
  obtain ⟨xs, e2, hw⟩ := Option.bind_eq_some_iff.mp hy
  split at hw
  · rename_i hz
    cases hw
    refine ⟨W, e, x, rs, sr, hi, xr, e1, fun vs W1 H1 g1 k1 => ?_⟩
    have q := k1.items g1 sr.wm e2
    refine ⟨by rw [SZ_eq, ← q.length]; exact hz, fun pp hn => ?_⟩
    have g0 := g1.base sr.wm
    exact KQ.fr (Q := Q) g0.wm (fun v W' H' g3 k3 => k v W' H' (g0.trans g3) (k3.back fun a h => g0.fresh h)) q pp hn
  · cases hw
theorem px_tup {x1} (h : PXs X i es fs) : PX X i (.Tuple es x1 pos) (fun x => pTup (fs x)) := by
  refine ⟨fun a' oe cls d pn hz hf => ⟨fun pins s σ H Q I ⟨W, e, x, r, sr, hi, xr, hfx, k⟩ => (pe_tup (h.run a' oe cls d pn hz hf)).run pins s σ H Q I ?_⟩⟩
  obtain ⟨rs, e1, hy⟩ := Option.bind_eq_some_iff.mp hfx
  obtain ⟨xs, e2, hw⟩ := Option.bind_eq_some_iff.mp hy
  split at hw
  · rename_i hz
    cases hw
    refine ⟨W, e, x, rs, sr, hi, xr, e1, fun vs W1 H1 g1 k1 => ?_⟩
    have q := k1.items g1 sr.wm e2
    refine ⟨by rw [SZ_eq, ← q.length]; exact hz, fun pp hn => ?_⟩
    have g0 := g1.base sr.wm
    exact KQ.tup (Q := Q) g0.wm (fun v W' H' g3 k3 => k v W' H' (g0.trans g3) k3) q pp hn
  · cases hw
/-- e.f -/
@[simp] def xFld (nm f : Str) : XD → FP := fun x _ => if x.cls = nm then (match x.fs with
  | [(g, y)] => if g = f then some (.fz y) else none
  | _ => none) else none
theorem px_fld {nm f qual : Str} {C fI : Addr} {n : Str} {pn pa : Pos} (T : EC X.K X.mg nm f qual C fI) (hN : X.N[i]? = some n := by rfl) (hv : Vis X.env.scope n := by first | exact Or.inl rfl | exact Or.inr (Or.inl rfl)) (hd : (n == ("__debug__" : Str)) = false := by decide)
    (hcd : (n == ("__classdict__" : Str)) = false := by decide) (hb : attributeBase (.Name n pn) f X.env (eval (.Name n pn) X.env) = eval (.Name n pn) X.env := by rfl) : PX X i (.Attribute (.Name n pn) f pa) (xFld nm f) := by
  refine ⟨fun a oe cls d pn hz hf => ⟨fun pins s σ H Q I ⟨W, e, x, r, sr, hi, xr, hfx, k⟩ => ?_⟩⟩
  refine attr_of hb (thn ((pe_var (X := X.suite a ((a, oe) :: pn)) hN hv hd hcd).run pins s σ H (fun v H1 => v = .ref a ∧ H1 = H) I ⟨_, hi, rfl, rfl⟩) fun u s1 ⟨v, H1, I1, rv, ev, eH⟩ => ?_)
  subst ev eH
  obtain rfl : u = Value.ref a := rv
  unfold xFld at hfx
  split at hfx
  rotate_left
  · cases hfx
  rename_i hc
  split at hfx
  rotate_left
  · cases hfx
  rename_i g y hfs
  split at hfx
  rotate_left
  · cases hfx
  rename_i hg
  cases hfx
  subst hg
  obtain ⟨xm, xf⟩ := xr
  rw [hc, T.gC] at xm
  cases xm
  rcases xf with ⟨z, _⟩ | ⟨dd, fv, ed, hdd, hn, rp⟩
  · rw [hfs] at z; cases z
  subst ed
  rw [hfs] at hn rp
  obtain ⟨w, fr, efv, rw1, rw2⟩ := rp
  have e0 : fr = [] := rw2
  subst e0
  have fv1 : fv = [(g, w)] := by
    cases fv with
    | nil => cases hn
    | cons p r =>
      cases r with
      | nil =>
        obtain ⟨p1, p2⟩ := p
        have h1 : p1 = g := (List.cons.inj hn).1
        have h2 : p2 = w := (List.cons.inj efv).1
        rw [h1, h2]
      | cons _ _ => simp at hn
  subst fv1
  obtain ⟨ha, _⟩ := I1.pin (a, oe) (List.mem_append_left _ List.mem_cons_self)
  obtain ⟨vs, hdat⟩ := hf
  have hx : ObjOk X.prog X.w H1 s1.heap dd (.xd [(g, w)]) := I1.hok dd _ hdd
  obtain ⟨mA, hns, hr⟩ := hx
  obtain ⟨od, ho, hl⟩ := lookIn_ns hns
  have l : List.lookup g [(g, w)] = some w := by simp [List.lookup]
  obtain ⟨u, hu, ru⟩ := RelO.some_of (v := w) (o := mA g) (by rw [← l]; exact hr g)
  have J : PySem.W.InstAt s1.heap a oe C (some od) := ⟨ha, hz.1, by unfold PySem.W.notCls; rw [hdat] <;> rfl, by rw [hz.2]; exact ho⟩
  exact HandSPX.exc_get I1.kIn J T.ga T.gg T.exC (PySem.W.findObj_own T.hdC T.noN rfl (by rw [hl, hu])) (handed_of ru) ⟨w, H1, I1.tok _, ru, k w W H1 (.refl sr.wm) rw1⟩
/-- isinstance(e, D) for the class's instances -/
@[simp] def xIsi (nm : Str) (b : Bool) : XD → FP := fun x _ => if x.cls = nm then some (.fz (.bl b)) else none
theorem px_isi {nm f qual : Str} {C fI : Addr} {n y : Str} {b : Bool} {cv : Value} {dv : V} {p pn py pos : Pos} (T : EC X.K X.mg nm f qual C fI) (hm : X.mg "isinstance" = none) (hy : X.mg y = some cv) (hrel : RelV dv cv) (huniq : ∀ u, RelV dv u → u = cv) (hk : PySem.W.kitOne X.K (.ref C) cv = some b) (hN : X.N[i]? = some n := by rfl) (hv : Vis X.env.scope n := by first | exact Or.inl rfl | exact Or.inr (Or.inl rfl))
    (hd : (n == ("__debug__" : Str)) = false := by decide) (hcd : (n == ("__classdict__" : Str)) = false := by decide) (hg : Gl X "isinstance" := by rfl) (hgy : Gl X y := by rfl) (hdy : (y == ("__debug__" : Str)) = false := by decide) (hb : bootBuiltins "isinstance" = some (.builtin "isinstance") := by decide +kernel)
    (s1 : starEach [.Name n pn, .Name y py] X.env = (false, eval (.Name n pn) X.env) :: starEach [.Name y py] X.env := by rfl) (s2 : starEach [.Name y py] X.env = (false, eval (.Name y py) X.env) :: starEach [] X.env := by rfl)
    (hpl : (backTo pos (starEach [.Name y py] X.env)).any (·.1) = false := by rfl) : PX X i (.Call (.Name "isinstance" p) [.Name n pn, .Name y py] [] pos) (xIsi nm b) := by
  refine ⟨fun a oe cls d pnn hz hf => ?_⟩
  obtain ⟨oc, od, oda, osl⟩ := oe
  obtain ⟨vs, hdat⟩ := hf
  obtain ⟨hz1, hz2⟩ := hz
  dsimp only at hz1 hz2 hdat
  subst hz1 hz2 hdat
  have call : CallR (X.suite a ((a, ⟨oc, od, .fields vs, osl⟩) :: pnn)) (.builtin "isinstance") (fun xs H Q => xs = [.ref a, dv] ∧ oc = .ref C ∧ (∀ dd, od = some dd → ∃ fv, H dd = some (.xd fv)) ∧ Q (.bl b) H) := by
    intro pins s σ H xs us Q I r h
    obtain ⟨rfl, hc, hdd, q⟩ := h
    cases r with
    | cons rx rr =>
      cases rr with
      | cons rt rr =>
        cases rr
        cases rx
        have ec := huniq _ rt
        subst ec hc
        obtain ⟨hget, _⟩ := I.pin (a, ⟨.ref C, od, .fields vs, osl⟩) (List.mem_append.mpr (.inl List.mem_cons_self))
        have J : ∃ oD, PySem.W.InstAt s.heap a ⟨.ref C, od, .fields vs, osl⟩ C oD := by
          cases od with
          | none => exact ⟨none, hget, rfl, rfl, trivial⟩
          | some dd =>
            obtain ⟨fv, hfv⟩ := hdd dd rfl
            have hx : ObjOk X.prog X.w H s.heap dd (.xd fv) := I.hok dd _ hfv
            obtain ⟨mA, hns, hr⟩ := hx
            obtain ⟨oD, ho, hl⟩ := lookIn_ns hns
            exact ⟨some oD, hget, rfl, rfl, ho⟩
        obtain ⟨oD, J⟩ := J
        obtain ⟨cdd, hcd, _⟩ := PySem.W.any_some T.hdC
        exact PySem.W.kia_one (PySem.W.kitx_exc (by rw [hcd]; rfl) T.ga T.gg T.exC T.ca T.cn T.ck T.cm) I.kIn J hk (fun z => nomatch z) fun tk => ⟨.bl b, H, I.kept (t' := tk) fun _ _ z => z, rfl, q⟩
  refine ⟨fun pins s σ H Q I ⟨W, e, x, r, sr, hi, xr, hfx, k⟩ => ?_⟩
  refine (pe_callB (X := X.suite a ((a, ⟨oc, od, .fields vs, osl⟩) :: pnn)) call hg hm hb (pa_cons (pe_var hN hv hd hcd) (pa_cons (pe_glob hgy hy hrel hdy) pa_nil s2) s1) (by decide) (by decide) s1 hpl).run pins s σ H Q I ?_
  unfold xIsi at hfx
  split at hfx
  rotate_left
  · cases hfx
  rename_i hc
  cases hfx
  obtain ⟨xm, xf⟩ := xr
  rw [hc, T.gC] at xm
  cases xm
  refine ⟨_, hi, rfl, rfl, fun dd ed => ?_, k _ W H (.refl sr.wm) rfl⟩
  rcases xf with ⟨_, z⟩ | ⟨d2, fv, e2, h2, _⟩
  · rw [z] at ed; cases ed
  · rw [e2] at ed; cases ed; exact ⟨fv, h2⟩
end
end DL

set_option maxHeartbeats 4000000
namespace DL
open PySem PySem.Spec PyProof.Rows L2

/-! ## try: .. except C as n: .. -/
/-- the suite, by the exception -/
abbrev FX := XD → FS
structure SX (X : Cx) (lk : List Nat) (i : Nat) (st : List Stmt) (f : FX) : Prop where
  run : ∀ (a : Addr) (oe : Obj) (cls : Value) (d : Option Addr) (pn : List (Addr × Obj)), Zc cls d oe → (∃ vs, oe.data = .fields vs) → PSs (X.suite a ((a, oe) :: pn)) st (fun D σ H => ∃ (W : List Addr) (e : En) (x : XD), SR W X.K H σ e ∧ σ[i]? = some (some (.ref a)) ∧
    XR X.mg W X.K H x cls d ∧ FlK X.K X.mg noW lk W H σ e D (f x e))
@[simp] def Fl.gone (i : Nat) : Fl → Fl
  | .nx e => .nx (e.set i none)
  | .bk e => .bk (e.set i none)
  | .ct e => .ct (e.set i none)
  | .rt s e => .rt s e
  | _ => .stuck
@[simp] def sTry (cm : Str → Option Bool) (i : Nat) (fb : FS) (fx : FX) : FS := fun e => match fb e with
  | .ex x e1 => (match cm x.cls with
    | some b => if b = true then (if i < e1.length then (fx x (e1.set i none)).gone i else .stuck) else .ex x e1
    | none => .stuck)
  | o => o
section
variable {W : List Addr} {K : PySem.W.Frag} {mg : Str → Option Value} {H : Hp} {σ : St} {e : En}
theorem setN_at {e : En} {i j : Nat} {s : S} (h : (e.set i none)[j]? = some (some s)) : i ≠ j ∧ e[j]? = some (some s) := by
  by_cases z : i = j
  · subst z
    by_cases hl : i < e.length
    · rw [List.getElem?_set_self hl] at h; cases h
    · rw [List.getElem?_eq_none (by simpa using hl)] at h; cases h
  · rw [List.getElem?_set_ne z] at h
    exact ⟨z, h⟩
theorem SR.setN (r : SR W K H σ e) (i : Nat) (v : Option V) : SR W K H (σ.set i v) (e.set i none) where
  wm := r.wm
  len := by rw [List.length_set, List.length_set, r.len]
  sl := fun j s h => by
    obtain ⟨z, q⟩ := setN_at h
    obtain ⟨u, h1, h2⟩ := r.sl j s q
    exact ⟨u, by rw [List.getElem?_set_ne z]; exact h1, h2⟩
  one := fun j k s t a h1 h2 o1 o2 p1 p2 => by
    obtain ⟨z1, q1⟩ := setN_at h1
    obtain ⟨z2, q2⟩ := setN_at h2
    rw [List.getElem?_set_ne z1] at p1
    rw [List.getElem?_set_ne z2] at p2
    exact r.one j k s t a q1 q2 o1 o2 p1 p2
theorem Ow.setN {i : Nat} {v : Option V} {a : Addr} (o : Ow (σ.set i v) (e.set i none) a) : Ow σ e a := by
  obtain ⟨j, s, h1, h2, h3⟩ := o
  obtain ⟨z, q⟩ := setN_at h1
  rw [List.getElem?_set_ne z] at h3
  exact ⟨j, s, q, h2, h3⟩
end
section
variable {X : Cx} {Wx : WX} {lk : List Nat} {i : Nat} {a : Expr} {fx : XD → FP} {stm : Stmt} {sts : List Stmt} {pos : Pos}
theorem sd_try {x n : Str} {c : Value} {body suite : List Stmt} {b₀ : Stmt} {np pos pos' : Pos} {cm : Str → Option Bool} {fb : FS} {fX : FX} (hs : X.stack = X.env :: X.outer) (hf : X.env.frame = some X.env.locals) (hNd : X.N.Nodup) (hc : Names X x c) (tk : Takes X Wx)
    (hcm : ∀ nm b cls, cm nm = some b → X.mg nm = some cls → PySem.W.exmOne X.K cls c = some b)
    (hb : ∀ (W : WX) (pn : List (Addr × Obj)) (xe : Value → Shared → Prop), Takes (X.tr pn xe) W → PassesOwn (model X.prog X.w) X.A X.env xe → SDs (X.tr pn xe) W lk body fb)
    (hsu : SX X lk i (b₀ :: suite) fX) (hlk : i ∉ lk := by decide) (hi : X.N[i]? = some n := by rfl) (hln : X.env.kindOf n = some .local := by rfl) :
    SD X Wx lk (.Try body [.ExceptHandler (some (.Name x np)) (some n) (b₀ :: suite) pos'] [] [] pos) (sTry cm i fb fX) := by
  refine SD.of ⟨_, ps_try_as (Wout := Wx) (tb := fun W => tS X.K X.mg W lk fb) (ts := fun a cls d D σ H => ∃ (W : List Addr) (e : En) (x : XD), SR W X.K H σ e ∧ σ[i]? = some (some (.ref a)) ∧ XR X.mg W X.K H x cls d ∧ FlK X.K X.mg noW lk W H σ e D (fX x e))
    hs hf hNd hi hln hc tk (fun W pn xe t p => (hb W pn xe t p).ps) (fun a oe cls d pn hz hd => hsu.run a oe cls d pn hz hd), fun W H σ e D sr h => ?_⟩
  refine ⟨W, e, sr, ?_⟩
  unfold sTry at h
  revert h
  generalize fb e = fl
  intro h
  cases fl with
  | stuck => exact h
  | nx e1 => exact h
  | bk e1 => exact h
  | ct e1 => exact h
  | rt s e1 => exact h
  | ex z e1 =>
    intro cls d W1 H1 σ1 sr1 x1 l1 xr
    have h : FlK X.K X.mg Wx lk W H σ e D (match cm z.cls with
      | some b => if b = true then (if i < e1.length then (fX z (e1.set i none)).gone i else .stuck) else .ex z e1
      | none => .stuck) := h
    cases hb' : cm z.cls with
    | none => rw [hb'] at h; exact h.elim
    | some b =>
      rw [hb'] at h
      refine ⟨b, hcm z.cls b cls hb' xr.1, fun eb a ha => ?_, fun eb => ?_⟩
      · subst eb
        have h : FlK X.K X.mg Wx lk W H σ e D (if i < e1.length then (fX z (e1.set i none)).gone i else .stuck) := h
        split at h
        rotate_left
        · exact h.elim
        rename_i hie
        have hiσ : i < σ1.length := by rw [← sr1.len]; exact hie
        refine ⟨W1, e1.set i none, z, sr1.setN i _, List.getElem?_set_self hiσ, xr, ?_⟩
        have lk1 : ∀ j ∈ lk, (σ1.set i (some (.ref a)))[j]? = σ[j]? := fun j hj => (List.getElem?_set_ne fun (w : i = j) => hlk (by rw [w]; exact hj)).trans (l1 j hj)
        have h2 := FlK.go (x1.trans (EX.shrink fun b o => Ow.setN (i := i) (v := some (.ref a)) o)) lk1 h
        revert h2
        generalize fX z (e1.set i none) = fl
        intro h2
        have fin : ∀ {W' : List Addr} {H' : Hp} {σ' : St} {e' : En}, SR W' X.K H' σ' e' → EX W1 H1 (σ1.set i (some (.ref a))) (e1.set i none) W' H' σ' e' → (∀ j ∈ lk, σ'[j]? = (σ1.set i (some (V.ref a)))[j]?) →
            SR W' X.K H' (σ'.set i none) (e'.set i none) ∧ EX W1 H1 (σ1.set i (some (.ref a))) (e1.set i none) W' H' (σ'.set i none) (e'.set i none) ∧ ∀ j ∈ lk, (σ'.set i none)[j]? = (σ1.set i (some (V.ref a)))[j]? :=
          fun s x l => ⟨s.setN i none, x.trans (EX.shrink fun b o => o.setN), fun j hj => (List.getElem?_set_ne fun (w : i = j) => hlk (by rw [w]; exact hj)).trans (l j hj)⟩
        cases fl with
        | stuck => exact h2.elim
        | ex y e2 => exact h2.elim
        | nx e2 => exact fun W' H' σ' s x l => let ⟨s', x', l'⟩ := fin s x l; h2 W' H' _ s' x' l'
        | bk e2 => exact fun W' H' σ' s x l => let ⟨s', x', l'⟩ := fin s x l; h2 W' H' _ s' x' l'
        | ct e2 => exact fun W' H' σ' s x l => let ⟨s', x', l'⟩ := fin s x l; h2 W' H' _ s' x' l'
        | rt s e2 => exact h2
      · subst eb
        exact h cls d W1 H1 σ1 sr1 x1 l1 xr
/-! ### the suite: a name gets a value; a value is returned -/
@[simp] def sxSet (j : Nat) (fx : XD → FP) : FX := fun x e => (rvO (fx x e) e).st fun s e1 => put j s.view e1
theorem sx_set (j : Nat) {y : Str} {py : Pos} (ha : PX X i a fx) (hNd : X.N.Nodup) (hlk : j ∉ lk := by decide) (hj : X.N[j]? = some y := by rfl) (hy : Loc X.env.scope y := by first | exact Or.inl rfl | exact Or.inr rfl) (hs : swapsWith a (some (.Name y py)) pos.line X.env = pure false := by rfl)
    (hfn : X.fn y = true ∨ X.env.scope.names.lookup y = some .local := by first | exact .inl rfl | exact .inr rfl | assumption) : SX X lk i [.Assign [.Name y py] a pos] (sxSet j fx) := by
  refine ⟨fun a' oe cls d pn hz hf => ⟨fun pins s σ H D I ⟨W, e, x, sr, hi, xr, h⟩ => ?_⟩⟩
  refine (pss_one (ps_set (X := X.suite a' ((a', oe) :: pn)) hNd hj hy (ha.run a' oe cls d pn hz hf) hs hfn)).run pins s σ H D I ?_
  obtain ⟨r, er, kq⟩ := OutK.rvo sr (DK.st (X := X) (Wx := noW) (Q0 := fun v H' => D.nx (σ.set j (some v)) H') sr.wm h fun s v e1 W1 H1 sr1 x1 rr h1 => put_st hlk sr1 rr h1)
  exact ⟨W, e, x, r, sr, hi, xr, er, kq⟩
@[simp] def sxRet (fx : XD → FP) : FX := fun x e => (rvO (fx x e) e).st fun s e1 => .rt s e1
theorem sx_ret (ha : PX X i a fx) : SX X lk i [.Return (some a) pos] (sxRet fx) := by
  refine ⟨fun a' oe cls d pn hz hf => ⟨fun pins s σ H D I ⟨W, e, x, sr, hi, xr, h⟩ => ?_⟩⟩
  refine (pss_one (ps_ret (X := X.suite a' ((a', oe) :: pn)) (ha.run a' oe cls d pn hz hf))).run pins s σ H D I ?_
  obtain ⟨r, er, kq⟩ := OutK.rvo sr (OutK.st (X := X) (Wx := noW) (Q0 := D.rt) h fun s v e1 W1 H1 sr1 x1 r fr h1 => h1 v W1 H1 σ sr1 x1 (fun _ _ => rfl) r fun so a ea => ⟨(fr so a ea).2, .inr (fr so a ea).1⟩)
  exact ⟨W, e, x, r, sr, hi, xr, er, kq⟩
end
end DL

set_option maxHeartbeats 4000000
namespace DL
open PySem PySem.Spec PyProof.Rows L2

/-! ## odds and ends -/
section
variable {X : Cx} {Wx : WX} {lk : List Nat} {a b : Expr} {fa fb : FM} {sts : List Stmt} {pos : Pos}
@[simp] def pDic0 : FP := fun _ => some (.fz (.dic [] []))
theorem pp_dic0 : PP X (.Dict [] [] pos) pDic0 := by
  refine PP.of ⟨_, pe_dnewK, fun W H σ e Q r sr hf k => ?_⟩
  cases hf
  intro p hn
  have g : Grow W H W (upd H p (.dK [])) := .of sr.wm (upd_keep hn)
  exact k _ W _ g ⟨p, [], rfl, ⟨upd_same, fun z => sr.thr z hn⟩, rfl, rfl⟩
/-- for over a list that is made with effects -/
@[simp] def sForM (fa : FM) (bind : FG) (fb : FS) : FS := fun e => (fa e).st fun s e1 => match s.view with
  | .lst ds => forL bind fb ds e1
  | _ => .stuck
theorem sd_forM {tg iter : Expr} {vs : List Nat} {bind : FG} {fb : FS} (hp : PassesOwn (model X.prog X.w) X.A X.env X.xe) (hc : X.calm = true) (ha : PM X Wx iter fa) (hg : GP X tg vs bind) (hb : SDs X Wx lk sts fb) (hlk : ∀ j ∈ lk, j ∉ vs := by decide)
    (hs : ∀ x, foldedSetIterable iter X.env x = pure x := by intro _; rfl) : SD X Wx lk (.For tg iter sts [] pos) (sForM fa bind fb) := by
  obtain ⟨u, pb, kb⟩ := hb.run
  refine SD.of ⟨_, ps_for (g := tG X.K vs bind) hp hc (pi_list ha.pe) hg.pg pb hs, fun W H σ e D sr h => ?_⟩
  refine ⟨W, e, sr, DK.st sr.wm h fun s v e1 W1 H1 sr1 x1 r h1 => ?_⟩
  revert r h1
  generalize s.view = dl
  intro r h1
  cases dl with
  | lst ds =>
    obtain ⟨l, us, rfl, hl, rl⟩ := r
    refine ⟨l, rfl, ⟨us, .of hl.1⟩, fun i m σ2 H2 => m = ds.length - i ∧ i ≤ ds.length ∧ ∃ W2 e2, SR W2 X.K H2 σ2 e2 ∧ Ex W1 H1 W2 H2 ∧ FlK X.K X.mg Wx lk W2 H2 σ2 e2 D (forL bind fb (ds.drop i) e2), ⟨ds.length, rfl, Nat.zero_le _, W1, e1, sr1, .refl sr1.wm, h1⟩, ?_⟩
    rintro i m σ2 H2 ⟨rfl, hle, W2, e2, sr2, x2, h2⟩
    have I2 : ItAt W2 X.K H2 (Itl X.K l) ds := itAt_list (x2.lsF hl).seq (RpL.mono x2 _ rl)
    by_cases hlt : i < ds.length
    · refine .inr ?_
      obtain ⟨d, hd⟩ : ∃ d, ds[i]? = some d := ⟨ds[i], List.getElem?_eq_getElem hlt⟩
      obtain ⟨hgo, hy⟩ := I2.1 i d hd
      refine ⟨hgo, fun σ' H' => ∃ W4 e4, SR W4 X.K H' σ' e4 ∧ Ex W1 H1 W4 H' ∧ FlK X.K X.mg Wx lk W4 H' σ' e4 D (forL bind fb (ds.drop (i + 1)) e4), fun σ' H' q => ⟨ds.length - (i + 1), by omega, rfl, hlt, q⟩, fun x H3 y => ?_⟩
      obtain ⟨kp, rp⟩ := hy x H3 y
      have ed : ds.drop i = d :: ds.drop (i + 1) := by
        rw [List.drop_eq_getElem_cons hlt]
        rw [List.getElem?_eq_getElem hlt] at hd
        cases hd
        rfl
      rw [ed] at h2
      unfold forL at h2
      split at h2
      · exact h2.elim
      rename_i e3 he3
      have g3 : Grow W2 H2 W2 H3 := .of sr2.wm kp
      have sr3 := g3.sr sr2
      refine ⟨W2, e2, d, e3, sr3, rp, he3, fun σ1 sr1 l1 a1 o1 => kb W2 H3 σ1 e3 _ sr1 ?_⟩
      have x3 : EX W2 H2 σ2 e2 W2 H3 σ1 e3 := (g3.fx sr2).trans (EX.shrink o1)
      have xx : Ex W1 H1 W2 H3 := x2.trans (g3.ex sr2.wm)
      have h3 := FlK.go x3 (fun j hj => a1 j (hlk j hj)) h2
      revert h3
      generalize fb e3 = fl
      intro h3
      cases fl with
      | stuck => exact h3
      | nx e4 => exact fun W4 H4 σ4 sr4 x4 l4 => ⟨W4, e4, sr4, xx.trans (x4.ex sr1), FlK.go x4 l4 h3⟩
      | ct e4 => exact fun W4 H4 σ4 sr4 x4 l4 => ⟨W4, e4, sr4, xx.trans (x4.ex sr1), FlK.go x4 l4 h3⟩
      | bk e4 => exact h3
      | rt s e4 => exact h3
      | ex x e4 => exact h3
    · have ei : i = ds.length := by omega
      subst ei
      rw [List.drop_length] at h2
      exact .inl ⟨I2.2, h2 W2 H2 σ2 sr2 .refl fun _ _ => rfl⟩
  | _ => exact h1.elim
end
theorem Room.u64 {k : Nat} {A : Around} (r : Room k A) : A.units + 64 < cLine := by have := r.un; omega
theorem Room.u65 {k : Nat} {A : Around} (r : Room k A) : A.units + 65 < cLine := by have := r.un; omega
theorem Room.u110 {k : Nat} {A : Around} (r : Room k A) : A.units + 110 < cLine := by have := r.un; omega
/-- a def of the text, by its body -/
theorem cal_of {P : Program} {w : World} {K : PySem.W.Frag} {mg : Str → Option Value} {base : Heap} {d : He.DefD} {N ps : List Str} {k : Nat} {lk : List Nat} {fb : FS} (hm : mg d.name = some (.ref (He.fAd K d.at_))) (FD : ∃ fd, FunD K d.name d.qual d.params d.body d.scope (d.dvs K) (d.kws K) (He.fAd K d.at_) fd)
    (hdf : d.dfl = []) (SC : FnScope N ps d.scope)
    (hb : ∀ (cdv : Value) (A : Around) (outer : List Env) (s : Shared) (H : Hp) (E : XK), Room k (A.deeper (envOfC d.qual d.scope s.heap.objs.size (He.fAd K d.at_) cdv)) → A.guards = some [] →
      SDs (cxOf (CX P w) P w K mg base N d.qual d.scope (He.fAd K d.at_) cdv A outer s H E) (fun c d _ H' => E c d H') lk d.body fb) : Cal P w K mg base (k + 1) d ps (fnF N.length lk fb) := by
  obtain ⟨fd, FD⟩ := FD
  refine ⟨⟨_, fd, hm, FD.kp, fd_of FD SC hb, ?_⟩⟩
  obtain ⟨oc, od, dV, kV, doc, pm, an, cdv, ct, osl, e, lk', hcd, hD, hK⟩ := FD.ex
  have hd : dV = .none := by
    rcases hD with ⟨_, z⟩ | ⟨z, _⟩
    · exact z
    · exact absurd (show d.dvs K = [] by unfold He.DefD.dvs; rw [hdf]; rfl) z
  subst hd
  exact ⟨⟨kV, doc, pm, an, cdv, ct, e⟩, oc, od, osl, lk'⟩

/-! ## the law's end -/
section
variable {P : Program} {w : World} {K : PySem.W.Frag} {mg mb : Str → Option Value} {k : Nat} {fa a : Addr} {fd : FuncData} {x : Str} {F : List S → Out} {s1 : Shared} {vs : List Value} {ns : List Int}
def dints (ns : List Int) : List D := ns.map .int
theorem rp_ints {W : List Addr} {H : Hp} : ∀ ns : List Int, RpL W K H (dints ns) (ns.map V.int)
  | [] => rfl
  | n :: ns => ⟨.int n, ns.map V.int, rfl, rfl, rp_ints ns⟩
theorem law_end (KX : K.In s1.heap) (hns : s1.heap.Ns mainGlobals mg) (hb : s1.heap.Ns builtinsNs mb) (hbb : ∀ x : Str, x ≠ "__name__" → mb x = bootBuiltins x) (hlim : s1.heap.NoLimit) (hg : s1.gens = #[]) (ha : s1.heap.get? a = some { cls := .type "list", data := .seq vs.toArray }) (hi : IntsAre vs ns) (hl : ns.length ≤ sizeLine)
    (hr : Room k callerA) (hF : ∀ base : Heap, K.In base → base.Ns mainGlobals mg → Fd P w K mg base k fa fd [x] F) (bind : ∀ (s : Shared) (u : Value), BindsTo s fd ⟨[u], []⟩ [(x, u)]) (tr : ∃ e, F [.d (.ro (dints ns))] = .ok (.d (.bl true)) e) :
    codeAny (model P w) callerA (.call (.ref fa) ⟨[.ref a], []⟩) (fun r s' => r = .ok (.ret (.bool true)) ∧ OldK s1.heap s'.heap ∧ s'.os = s1.os ∧ AllBare s'.gens) s1 := by
  have go : ∀ H : Hp, Only H → SqL K H a (ns.map V.int) → (∀ b, ¬ Mut (H b)) → HOk P w H s1.heap → (∀ b, H b ≠ none → b = a) → (H a ≠ none → K.lookup a = none) →
      codeAny (model P w) callerA (.call (.ref fa) ⟨[.ref a], []⟩) (fun r s' => r = .ok (.ret (.bool true)) ∧ OldK s1.heap s'.heap ∧ s'.os = s1.os ∧ AllBare s'.gens) s1 := by
    intro H only sq nomut ok one notK
    have inB {b : Addr} {o : Obj} (e : s1.heap.get? b = some o) (n : H b = none) : (hidT s1.heap H).get? b = some o := hidT_get e n
    have dictN {b : Addr} {o : Obj} {es : Array DictEntry} {ep : Nat} (e : s1.heap.get? b = some o) (d : o.data = .dict es ep) : H b = none := by
      cases q : H b with
      | none => rfl
      | some u =>
        have z : b = a := one b (by rw [q]; simp)
        rw [z, ha] at e
        cases e
        have d' : Data.seq vs.toArray _ = Data.dict es ep := d
        cases d'
    have nsB {b : Addr} {m : Str → Option Value} (z : s1.heap.Ns b m) : (hidT s1.heap H).Ns b m := let ⟨o, es, ep, e, d, r⟩ := z; ⟨o, es, ep, inB e (dictN e d), d, r⟩
    have kB : K.In (hidT s1.heap H) := fun b o e => inB (KX b o e) (by
      cases q : H b with
      | none => rfl
      | some u =>
        have z : b = a := one b (by rw [q]; simp)
        rw [z, notK (by rw [← z, q]; simp)] at e
        cases e)
    have md : Mod K mg (hidT s1.heap H) := ⟨kB, nsB hns, ⟨mb, nsB hb, hbb⟩, let ⟨mc, h1, h2⟩ := hlim; ⟨mc, nsB h1, h2⟩⟩
    have env : Env0 P w K mg (hidT s1.heap H) callerA [] s1 H := ⟨rfl, md, fun b o e => of_hidT e, Nat.le_of_eq (hidT_size _ _), trivial, fun b hb => absurd (show b ∈ ([] : List Addr) from hb) (by simp), ok, .of_eq hg⟩
    obtain ⟨ee, ef⟩ := tr
    have ro : RoF K H a (ns.map V.int) := by
      rcases sq with (h | h) | h
      · exact absurd (show Mut (H a) by rw [h]; trivial) (nomut a)
      · exact .inl h
      · exact .inr (.inr h)
    have fr : SR [] K H ([V.ref a].map some) ([S.d (.ro (dints ns))].map some) := frame_of (ds := [.ro (dints ns)]) (fun _ z => absurd z (by simp)) ⟨_, [], rfl, ⟨a, _, rfl, ro, rp_ints ns⟩, rfl⟩
    refine codeAny_mono ((hF _ kB (nsB hns)).run callerA [] s1 H ⟨[.ref a], []⟩ [.ref a] [.ref a] [.d (.ro (dints ns))] [] (fun v _ => v = .bl true) (fun _ _ _ => False) hr rfl env (bind s1 (.ref a)) (.cons rfl .nil) rfl fr ?_) fun r s' h => ?_
    · rw [ef]
      exact fun v W' H' _ _ rv _ => rv
    · cases r with
      | error e =>
        obtain ⟨_, _, _, _, _, _, _, _, _, _, _, _, z⟩ := h
        exact z.elim
      | ok fl =>
        cases fl with
        | next => exact False.elim h
        | brk => exact False.elim h
        | cont => exact False.elim h
        | ret u =>
          obtain ⟨v, H', os, bare, un, ok', rv, q⟩ := h
          cases (show v = .bl true from q)
          obtain rfl : u = Value.bool true := rv
          refine ⟨rfl, OldK.of_keep fun b o e => ?_, os, bare⟩
          cases q : H b with
          | none => exact un.keep b o e q (fun z => absurd (show b ∈ ([] : List Addr) from z) (by simp)) (fun z => absurd (show b ∈ ([] : List Addr) from z) (by simp))
          | some u =>
            rcases only b with z | ⟨ob, xs, z⟩
            · rw [q] at z
              cases z
            · obtain ⟨e1, _⟩ := ok b _ z
              obtain ⟨e2, _⟩ := ok' b _ (un.frzs b ob _ z)
              rw [e] at e1
              cases e1
              exact e2
  have rv := vals_ints hi
  have lenV := hi.length
  cases hk : K.lookup a with
  | some o =>
    have e := KX a o hk
    rw [ha] at e
    cases e
    exact go (fun _ => none) (fun _ => .inl rfl) (.inr ⟨_, vs.toArray, _, hk, rfl, rfl, rfl, by rw [List.size_toArray, lenV]; exact hl, by simpa using rv⟩) (fun _ z => z) (fun b u z => by have z' : (none : Option HO) = some u := z; cases z') (fun b z => absurd rfl z) fun z => absurd rfl z
  | none =>
    refine go (fun b => if b = a then some (.frz { cls := .type "list", data := .seq vs.toArray } (.lst (ns.map V.int))) else none) (fun b => ?_) (.inl (.inr ⟨{ cls := .type "list", data := .seq vs.toArray }, if_pos rfl⟩)) (fun b z => ?_) (fun b u z => ?_) (fun b z => ?_) fun _ => hk
    · by_cases h : b = a
      · exact .inr ⟨_, _, if_pos h⟩
      · exact .inl (if_neg h)
    · by_cases h : b = a
      · rw [if_pos h] at z; exact z
      · rw [if_neg h] at z; exact z
    · by_cases h : b = a
      · have w := (if_pos h).symm.trans z
        cases w
        subst h
        exact ⟨ha, by rw [List.length_map]; exact hl, vs, _, rv, ha⟩
      · have w := (if_neg h).symm.trans z
        cases w
    · by_cases h : b = a
      · exact h
      · exact absurd (if_neg h) z
/-- F gives the written part, the function object, the promise over every base -/
theorem walk_dl {l : PySem.W.OpenLaw} {n k : Nat} {q : Program} {loose : List Str} {XP : (Str → Option Value) → Heap → Prop} {YP : World → Heap → Prop} {d : DefRec} {x : Str} {F : List S → Out} (hn : l.most = some n) (hn2 : n ≤ sizeLine) (hdf : d.params.defaults = []) (hr : Room k callerA)
    (hF : ∀ (w : World) (mg : Str → Option Value) (fa : Addr) (h : Heap), YP w h → h.Ns mainGlobals mg → mg d.name = some (.ref fa) → ∃ (K : PySem.W.Frag) (fd : FuncData), K.In h ∧ (∀ (s : Shared) (u : Value), BindsTo s fd ⟨[u], []⟩ [(x, u)]) ∧
      ∀ base : Heap, K.In base → base.Ns mainGlobals mg → Fd l.prog w K mg base k fa fd [x] F)
    (tr : ∀ ns : List Int, ns.length ≤ n → ∃ e, F [.d (.ro (dints ns))] = .ok (.d (.bl true)) e) : PySem.W.WalkO q loose XP YP l.row.toRowW d [] (fun f vs => PySem.call f vs) := by
  refine Att.attach_call hn hdf fun w s0 s1 mg mb fa o pm cd doc a vs ns G Y ho hd hcd hmg hobj hints hlen hg => ?_
  obtain ⟨K, fd, KX, hb, hp⟩ := hF w mg fa _ Y G.T.g hmg
  exact law_end KX G.T.g G.T.b G.T.builtins G.T.nolimit hg hobj hints (Nat.le_trans hlen hn2) hr hp hb (tr ns hlen)
end
end DL

set_option maxHeartbeats 4000000
namespace DL
open PySem PySem.Spec PyProof.Rows L2

/-! ## a head with own looks -/
def obX (n : Nat) (fa : List He.Fa) (fn : List He.DefD) (chk : PySem.W.Frag → Bool) (g : Addr → Option Obj) : He.AlD × Bool := (fun K => (He.obsD fa fn K, chk K)) (He.frG g (He.asD g n))
def hookX (n : Nat) (fa : List He.Fa) (fn : List He.DefD) (chk : PySem.W.Frag → Bool) : PySem.W.Hook where
  α := He.AlD × Bool
  obs := fun s => obX n fa fn chk s.heap.get?
  val := fun _ => (He.valD fn, true)
  says := fun _ h => ∃ K : PySem.W.Frag, K.In h ∧ He.SaysD fa fn K ∧ chk K = true
  of := fun _ _ e => ⟨_, He.frG_in, congrArg Prod.fst e, congrArg Prod.snd e⟩
  keeps := fun _ _ _ ⟨K, hK, c⟩ k => ⟨K, PySem.W.Frag.In.keeps hK k, c⟩
theorem obX_eq {n : Nat} {fa : List He.Fa} {fn : List He.DefD} {chk : PySem.W.Frag → Bool} {g : Addr → Option Obj} {s : Shared} (h : ∀ a, g a = s.heap.get? a) : obX n fa fn chk g = (hookX n fa fn chk).obs s := by
  have e : g = s.heap.get? := funext h
  rw [e] <;> rfl
/-- a tuple of whole numbers of the module -/
def tupI (K : PySem.W.Frag) (x : Str) (ns : List Int) : Bool := He.tupB K x (ns.map .int) && (match K.lookup (He.ga K x) with
  | some o => decide (o.cls = .type "tuple") && decide (o.dict = none)
  | none => false)
theorem tupI_ok {K : PySem.W.Frag} {x : Str} {ns : List Int} (h : tupI K x ns = true) : (∀ H, SqT K H (He.ga K x) (ns.map V.int)) ∧ ∃ o, K.lookup (He.ga K x) = some o ∧ o.cls = .type "tuple" ∧ o.dict = none := by
  obtain ⟨h1, h2⟩ := Bool.and_eq_true_iff.mp h
  refine ⟨fun H => ?_, ?_⟩
  · have q := He.tupB_ok h1 H
    rw [List.map_map] at q
    exact q
  · cases e : K.lookup (He.ga K x) with
    | none => rw [e] at h2; cases h2
    | some o =>
      rw [e] at h2
      obtain ⟨a, b⟩ := Bool.and_eq_true_iff.mp h2
      exact ⟨o, rfl, of_decide_eq_true a, of_decide_eq_true b⟩
def exmB (K : PySem.W.Frag) (x y : Str) (b : Bool) : Bool := decide (PySem.W.exmOne K (.ref (He.ga K x)) (.ref (He.ga K y)) = some b)
def kitOB (K : PySem.W.Frag) (x y : Str) (b : Bool) : Bool := decide (PySem.W.kitOne K (.ref (He.ga K x)) (.ref (He.ga K y)) = some b)

/-- the law's def, over every base -/
theorem fd_all {P : Program} {w : World} {K : PySem.W.Frag} {mg : Str → Option Value} {k : Nat} {d : He.DefD} {x : Str} {F : List S → Out} {fa : Addr} (hm : mg d.name = some (.ref fa)) (h0 : mg d.name = some (.ref (He.fAd K d.at_))) (hb : BindsA d [x]) (hdf : d.dfl = []) (FD : ∃ fd, FunD K d.name d.qual d.params d.body d.scope (d.dvs K) (d.kws K) (He.fAd K d.at_) fd)
    (c : ∀ base : Heap, Cal P w K mg base k d [x] F) : ∃ fd : FuncData, (∀ (s : Shared) (v : Value), BindsTo s fd ⟨[v], []⟩ [(x, v)]) ∧ ∀ base : Heap, Fd P w K mg base k fa fd [x] F := by
  obtain ⟨fd, FD⟩ := FD
  obtain ⟨oc, od, dV, kV, doc, pm, an, cdv, ct, osl, e, lk, hcd, hD, hK⟩ := FD.ex
  have hd : dV = .none := by
    rcases hD with ⟨_, z⟩ | ⟨z, _⟩
    · exact z
    · exact absurd (show d.dvs K = [] by unfold He.DefD.dvs; rw [hdf]; rfl) z
  subst hd
  refine ⟨fd, fun s v => .of_eq (by rw [e]; exact hb kV doc pm an cdv ct [v] rfl), fun base => ?_⟩
  obtain ⟨f, fd2, hm2, _, FF, _, oc2, od2, osl2, lk2⟩ := (c base).ex
  rw [hm] at h0 hm2
  cases h0
  cases hm2
  rw [lk] at lk2
  cases lk2
  exact FF
/-! ## keywords, by places -/
def permG (n m : Nat) (ix : List Nat) {α : Type} (us ws : List α) : List α := if us.length = n ∧ ws.length = m then ix.filterMap fun i => (us ++ ws)[i]? else []
theorem permG_ok {n m k : Nat} {ix : List Nat} {α : Type} {us ws : List α} (h : (permG n m ix us ws).length = k) (hk : k ≠ 0) : us.length = n ∧ ws.length = m := by
  by_cases q : us.length = n ∧ ws.length = m
  · exact q
  · exfalso
    have e : permG n m ix us ws = [] := if_neg q
    rw [e] at h
    exact hk h.symm
def cBody : Stmt → List Stmt
  | .ClassDef (body := b) .. => b
  | _ => []
theorem Vals.pick {vs : List V} {us : List Value} (r : Vals vs us) : ∀ ix : List Nat, Vals (ix.filterMap fun i => vs[i]?) (ix.filterMap fun i => us[i]?)
  | [] => .nil
  | i :: ix => by
    rw [List.filterMap_cons, List.filterMap_cons]
    cases h : vs[i]? with
    | none =>
      have h2 : us[i]? = none := by
        rw [List.getElem?_eq_none_iff] at h ⊢
        rw [← r.length]
        exact h
      rw [h2]
      exact Vals.pick r ix
    | some v =>
      obtain ⟨u, h2, rv⟩ := r.get h
      rw [h2]
      exact .cons rv (Vals.pick r ix)
theorem gv_perm (n m : Nat) (ix : List Nat) : GVals (permG n m ix) := ⟨fun {vs us zs ws} r rz => by
  unfold permG
  rw [r.length, rz.length]
  split
  · exact Vals.pick (r.append rz) ix
  · exact .nil⟩
section
variable {W : List Addr} {K : PySem.W.Frag} {H H' : Hp}
theorem RVs.get : ∀ {rs : List RV} {vs : List V} {i : Nat}, RVs W K H H' rs vs → (rs[i]? = none ∧ vs[i]? = none) ∨ ∃ r v, rs[i]? = some r ∧ vs[i]? = some v ∧ RVok W K H H' r v
  | [], vs, i, h => by cases (show vs = [] from h); exact .inl ⟨by simp, by simp⟩
  | r :: rs, _, 0, ⟨v, us, e, h1, _⟩ => by subst e; exact .inr ⟨r, v, rfl, rfl, h1⟩
  | r :: rs, _, i + 1, ⟨v, us, e, _, h2⟩ => by subst e; simpa using RVs.get (i := i) h2
theorem RVs.pick {rs : List RV} {vs : List V} (r : RVs W K H H' rs vs) : ∀ ix : List Nat, RVs W K H H' (ix.filterMap fun i => rs[i]?) (ix.filterMap fun i => vs[i]?)
  | [] => rfl
  | i :: ix => by
    rw [List.filterMap_cons, List.filterMap_cons]
    rcases r.get (i := i) with ⟨h1, h2⟩ | ⟨q, v, h1, h2, h3⟩
    · rw [h1, h2]; exact RVs.pick r ix
    · rw [h1, h2]; exact ⟨v, _, rfl, h3, RVs.pick r ix⟩
theorem RVs.append : ∀ {rs qs : List RV} {vs us : List V}, RVs W K H H' rs vs → RVs W K H H' qs us → RVs W K H H' (rs ++ qs) (vs ++ us)
  | [], qs, vs, us, h, q => by cases (show vs = [] from h); exact q
  | r :: rs, qs, _, us, ⟨v, ws, e, h1, h2⟩, q => by subst e; exact ⟨v, ws ++ us, rfl, h1, RVs.append h2 q⟩
theorem gr_perm (n m : Nat) (ix : List Nat) : GRel (permG n m ix) := ⟨fun {W K H H' rs qs vs zs} r rz => by
  unfold permG
  rw [r.len, rz.len]
  split
  · exact RVs.pick (r.append rz) ix
  · exact rfl⟩
end
end DL

set_option maxHeartbeats 4000000
namespace DL
open PySem PySem.Spec PyProof.Rows L2

/-! # Plain lemmas about data -/
mutual
/-- small enough to be shown and told apart -/
def D.nice : D → Bool
  | .non => true
  | .bl _ => true
  | .int i => decide (i.natAbs.log2 < 1900)
  | .str x => x.cps.toList.all fun c => decide (c < 1114112)
  | .tup xs => niceL xs
  | .lst xs => niceL xs
  | .ro xs => niceL xs
  | .dic _ _ => false
def niceL : List D → Bool
  | [] => true
  | d :: ds => d.nice && niceL ds
end
mutual
def D.size : D → Nat
  | .str x => x.length
  | .tup xs => sizeL xs
  | .lst xs => sizeL xs
  | .ro xs => sizeL xs
  | .dic _ _ => 0
  | .non => 0
  | .bl _ => 0
  | .int _ => 0
def sizeL : List D → Nat
  | [] => 0
  | d :: ds => d.size + 1 + sizeL ds
end
mutual
def D.dep : D → Nat
  | .tup xs => depL xs + 1
  | .lst xs => depL xs + 1
  | .ro xs => depL xs + 1
  | .str _ => 0
  | .dic _ _ => 0
  | .non => 0
  | .bl _ => 0
  | .int _ => 0
def depL : List D → Nat
  | [] => 0
  | d :: ds => max d.dep (depL ds)
end
mutual
theorem D.nice_okp : ∀ d : D, d.nice = true → d.okp = true
  | .non, _ => rfl
  | .bl _, _ => rfl
  | .int _, _ => rfl
  | .str _, _ => rfl
  | .tup xs, h => niceL_okp xs h
  | .lst xs, h => niceL_okp xs h
  | .ro xs, h => niceL_okp xs h
theorem niceL_okp : ∀ ds : List D, niceL ds = true → okpL ds = true
  | [], _ => rfl
  | d :: ds, h => by
    obtain ⟨a, b⟩ := Bool.and_eq_true_iff.mp (show (d.nice && niceL ds) = true from h)
    show (d.okp && okpL ds) = true
    rw [D.nice_okp d a, niceL_okp ds b]
    rfl
end
mutual
theorem D.nice_lay : ∀ d : D, d.nice = true → d.py.canLay0 = true
  | .non, _ => by simp only [D.py, PyData.canLay0]
  | .bl _, _ => by simp only [D.py, PyData.canLay0]
  | .int _, _ => by simp only [D.py, PyData.canLay0]
  | .str x, h => by
    have h : (x.cps.toList.all fun c => decide (c < 1114112)) = true := h
    simp only [D.py, PyData.canLay0, PyData.strOk]
    rw [← Array.all_toList]
    exact h
  | .tup xs, h => by simp only [D.py, PyData.canLay0]; exact niceL_lay xs h
  | .lst xs, h => by simp only [D.py, PyData.canLay0]; exact niceL_lay xs h
  | .ro xs, h => by simp only [D.py, PyData.canLay0]; exact niceL_lay xs h
theorem niceL_lay : ∀ ds : List D, niceL ds = true → PyData.canLayAll0 (pyL ds) = true
  | [], _ => by simp only [pyL, PyData.canLayAll0]
  | d :: ds, h => by
    obtain ⟨a, b⟩ := Bool.and_eq_true_iff.mp (show (d.nice && niceL ds) = true from h)
    simp only [pyL, PyData.canLayAll0, D.nice_lay d a, niceL_lay ds b, Bool.and_self]
end
mutual
theorem D.py_depth : ∀ d : D, d.nice = true → d.py.depth = d.dep
  | .non, _ => by simp only [D.py, PyData.depth, D.dep]
  | .bl _, _ => by simp only [D.py, PyData.depth, D.dep]
  | .int _, _ => by simp only [D.py, PyData.depth, D.dep]
  | .str _, _ => by simp only [D.py, PyData.depth, D.dep]
  | .tup xs, h => by simp only [D.py, PyData.depth, D.dep, pyL_depth xs h]
  | .lst xs, h => by simp only [D.py, PyData.depth, D.dep, pyL_depth xs h]
  | .ro xs, h => by simp only [D.py, PyData.depth, D.dep, pyL_depth xs h]
theorem pyL_depth : ∀ ds : List D, niceL ds = true → PyData.depthAll (pyL ds) = depL ds
  | [], _ => by simp only [pyL, PyData.depthAll, depL]
  | d :: ds, h => by
    obtain ⟨a, b⟩ := Bool.and_eq_true_iff.mp (show (d.nice && niceL ds) = true from h)
    simp only [pyL, PyData.depthAll, depL, D.py_depth d a, pyL_depth ds b]
end
mutual
theorem D.py_bulk : ∀ d : D, d.nice = true → d.py.bulk = d.size
  | .non, _ => by simp only [D.py, PyData.bulk, D.size]
  | .bl _, _ => by simp only [D.py, PyData.bulk, D.size]
  | .int _, _ => by simp only [D.py, PyData.bulk, D.size]
  | .str _, _ => by simp only [D.py, PyData.bulk, D.size]; rfl
  | .tup xs, h => by simp only [D.py, PyData.bulk, D.size, pyL_bulk xs h]
  | .lst xs, h => by simp only [D.py, PyData.bulk, D.size, pyL_bulk xs h]
  | .ro xs, h => by simp only [D.py, PyData.bulk, D.size, pyL_bulk xs h]
theorem pyL_bulk : ∀ ds : List D, niceL ds = true → PyData.bulkAll (pyL ds) = sizeL ds
  | [], _ => by simp only [pyL, PyData.bulkAll, sizeL]
  | d :: ds, h => by
    obtain ⟨a, b⟩ := Bool.and_eq_true_iff.mp (show (d.nice && niceL ds) = true from h)
    simp only [pyL, PyData.bulkAll, sizeL, D.py_bulk d a, pyL_bulk ds b]
end
mutual
theorem D.nice_shows : ∀ d : D, d.nice = true → d.py.showable = true ∧ d.py.leavesShort 1902 = true
  | .non, _ => by simp only [D.py, PyData.showable, PyData.leavesShort, and_self]
  | .bl _, _ => by simp only [D.py, PyData.showable, PyData.leavesShort, and_self]
  | .int i, h => by
    have h : i.natAbs.log2 < 1900 := of_decide_eq_true h
    simp only [D.py, PyData.showable, PyData.leavesShort, decide_eq_true_eq]
    refine ⟨by omega, ?_⟩
    have := int_text_length_le (a := i) (k := 1900) (by decide) h
    show (Str.ofString (toString i)).length ≤ 1902
    exact Nat.le_trans (Nat.le_of_eq (PySem.ofString_length _)) (Nat.le_trans this (by decide))
  | .str x, h => by
    have h : (x.cps.toList.all fun c => decide (c < 1114112)) = true := h
    simp only [D.py, PyData.showable, PyData.leavesShort, true_and]
    rw [List.all_eq_true] at h ⊢
    intro c hc
    have := of_decide_eq_true (h c hc)
    exact decide_eq_true (by omega)
  | .tup xs, h => by simp only [D.py, PyData.showable, PyData.leavesShort]; exact niceL_shows xs h
  | .lst xs, h => by simp only [D.py, PyData.showable, PyData.leavesShort]; exact niceL_shows xs h
  | .ro xs, h => by simp only [D.py, PyData.showable, PyData.leavesShort]; exact niceL_shows xs h
theorem niceL_shows : ∀ ds : List D, niceL ds = true → PyData.showableAll (pyL ds) = true ∧ PyData.leavesShortAll 1902 (pyL ds) = true
  | [], _ => by simp only [pyL, PyData.showableAll, PyData.leavesShortAll, and_self]
  | d :: ds, h => by
    obtain ⟨a, b⟩ := Bool.and_eq_true_iff.mp (show (d.nice && niceL ds) = true from h)
    simp only [pyL, PyData.showableAll, PyData.leavesShortAll, (D.nice_shows d a).1, (D.nice_shows d a).2, (niceL_shows ds b).1, (niceL_shows ds b).2, Bool.and_self, and_self]
end
theorem eqok_nice {d : D} (h : d.nice = true) (hd : d.dep ≤ 64) : eqok d = true := by
  unfold eqok SeqAt.shaped
  rw [D.nice_okp d h, D.nice_lay d h, D.py_depth d h, decide_eq_true hd]
  rfl
theorem shown_short {d : D} (h : d.nice = true) (hs : d.size ≤ 8000) : d.py.shown.length ≤ SZ := by
  have := PyData.shown_le_bulk 1902 (by decide) d.py (D.nice_shows d h).2
  rw [D.py_bulk d h] at this
  unfold SZ
  omega
theorem repr_lst {xs : List D} (h : niceL xs = true) (hd : depL xs ≤ 60) (hs : sizeL xs ≤ 8000) : gRepr [.lst xs] = some (.fz (.str (D.lst xs).py.shown)) :=
  if_pos ⟨niceL_okp xs h, (D.nice_shows (.lst xs) h).1, by rw [D.py_depth (.lst xs) h]; show depL xs + 1 ≤ 100; omega, shown_short (d := .lst xs) h hs⟩
theorem repr_tup {xs : List D} (h : niceL xs = true) (hd : depL xs ≤ 60) (hs : sizeL xs ≤ 8000) : gRepr [.tup xs] = some (.fz (.str (D.tup xs).py.shown)) :=
  if_pos ⟨niceL_okp xs h, (D.nice_shows (.tup xs) h).1, by rw [D.py_depth (.tup xs) h]; show depL xs + 1 ≤ 100; omega, shown_short (d := .tup xs) h hs⟩
/-! ### equality -/
theorem gEq_nice {x y : D} (hx : x.nice = true) (hy : y.nice = true) (dx : x.dep ≤ 64) (dy : y.dep ≤ 64) : gEq x y = some (.fz (.bl (eqb x y))) := if_pos ⟨eqok_nice hx dx, eqok_nice hy dy⟩
theorem gNe_nice {x y : D} (hx : x.nice = true) (hy : y.nice = true) (dx : x.dep ≤ 64) (dy : y.dep ≤ 64) : gNe x y = some (.fz (.bl (!eqb x y))) := if_pos ⟨eqok_nice hx dx, eqok_nice hy dy⟩
theorem eqb_refl {x : D} (h : x.nice = true) : eqb x x = true := PySem.SeqAt.eqv_refl x.py (D.nice_lay x h)
theorem eqb_int (i j : Int) : eqb (.int i) (.int j) = decide (i = j) := by
  unfold eqb
  simp only [D.py, PyData.eqv]
  rw [Bool.eq_iff_iff]
  simp
theorem eqb_str (x y : Str) : eqb (.str x) (.str y) = decide (x = y) := by
  unfold eqb
  simp only [D.py, PyData.eqv]
  rw [Bool.eq_iff_iff]
  simp
theorem eqvAll_dints : ∀ v w : List Int, PyData.eqvAll (pyL (dints v)) (pyL (dints w)) = decide (v = w)
  | [], [] => by simp [dints, pyL, PyData.eqvAll]
  | [], _ :: _ => by simp [dints, pyL, PyData.eqvAll]
  | _ :: _, [] => by simp [dints, pyL, PyData.eqvAll]
  | a :: v, b :: w => by
    have ih := eqvAll_dints v w
    show (PyData.eqv (.int a) (.int b) && PyData.eqvAll (pyL (dints v)) (pyL (dints w))) = _
    rw [ih, Bool.eq_iff_iff]
    simp [PyData.eqv]
theorem eqb_tupI (v w : List Int) : eqb (.tup (dints v)) (.tup (dints w)) = decide (v = w) := by
  unfold eqb
  simp only [D.py, PyData.eqv]
  exact eqvAll_dints v w
theorem eqb_lstI (v w : List Int) : eqb (.lst (dints v)) (.lst (dints w)) = decide (v = w) := by
  unfold eqb
  simp only [D.py, PyData.eqv]
  exact eqvAll_dints v w
/-! ### steps of mirrors -/
theorem pAnd_t {fa fb : FP} {e : En} (h : fa e = some (.fz (.bl true))) : pAnd fa fb e = fb e := by unfold pAnd; rw [h]; rfl
theorem pAnd_f {fa fb : FP} {e : En} (h : fa e = some (.fz (.bl false))) : pAnd fa fb e = some (.fz (.bl false)) := by unfold pAnd; rw [h]; rfl
theorem ret_fz {f : FP} {e : En} {x : D} (h : f e = some (.fz x)) : sRet (mPP f) e = .rt (.d x) e := by unfold sRet mPP; rw [h]; rfl
theorem ret_fr {f : FP} {e : En} {xs : List D} (h : f e = some (.fr xs)) : sRet (mPP f) e = .rt (.lst xs) e := by unfold sRet mPP; rw [h]; rfl
theorem set_fz {f : FP} {e : En} {x : D} {i : Nat} (h : f e = some (.fz x)) (hi : i < e.length) : sSet i (mPP f) e = .nx (e.set i (some (.d x))) := by unfold sSet mPP; rw [h]; exact if_pos hi
theorem set_fr {f : FP} {e : En} {xs : List D} {i : Nat} (h : f e = some (.fr xs)) (hi : i < e.length) : sSet i (mPP f) e = .nx (e.set i (some (.d (.lst xs)))) := by unfold sSet mPP; rw [h]; exact if_pos hi
theorem seq_nx {f g : FS} {e e1 : En} (h : f e = .nx e1) : sSeq f g e = g e1 := by unfold sSeq; rw [h]; rfl
theorem seq_rt {f g : FS} {e e1 : En} {s : S} (h : f e = .rt s e1) : sSeq f g e = .rt s e1 := by unfold sSeq; rw [h]; rfl
theorem seq_ex {f g : FS} {e e1 : En} {x : XD} (h : f e = .ex x e1) : sSeq f g e = .ex x e1 := by unfold sSeq; rw [h]; rfl
theorem if_t {ft : FT} {f g : FS} {e : En} (h : ft e = some true) : sIf (tMT ft) f g e = f e := by unfold sIf tMT; rw [h]; rfl
theorem if_f {ft : FT} {f g : FS} {e : En} (h : ft e = some false) : sIf (tMT ft) f g e = g e := by unfold sIf tMT; rw [h]; rfl
theorem pIf_t {ft : FT} {f g : FP} {e : En} (h : ft e = some true) : pIf ft f g e = f e := by unfold pIf; rw [h]; rfl
theorem pIf_f {ft : FT} {f g : FP} {e : En} (h : ft e = some false) : pIf ft f g e = g e := by unfold pIf; rw [h]; rfl
theorem tVal_ok {f : FP} {e : En} {b : Bool} (h : f e = some (.fz (.bl b))) : tVal f e = some b := by unfold tVal; rw [h]; rfl
theorem aCons_ok {fa : FP} {fs : FA} {e : En} {r : RV} {rs : List RV} (h : fa e = some r) (h2 : fs e = some rs) : aCons fa fs e = some (r :: rs) := by unfold aCons; rw [h, h2]; rfl
theorem pCa_ok {g : List D → Option RV} {fs : FA} {e : En} {rs : List RV} (h : fs e = some rs) : pCa g fs e = g (rs.map RV.view) := by unfold pCa; rw [h]; rfl
theorem p2_ok {g : D → D → Option RV} {fa fb : FP} {e : En} {a b : RV} (h : fa e = some a) (h2 : fb e = some b) : p2 g fa fb e = g a.view b.view := by unfold p2; rw [h, h2]; rfl
theorem pFd_ok {F : List S → Out} {fs : FA} {e : En} {rs : List RV} (h : fs e = some rs) : pFd F fs e = callP F rs := by unfold pFd; rw [h]; rfl
theorem callP_fz {F : List S → Out} {rs : List RV} {x : D} {e : En} (h : F (rs.map fun r => .d r.view) = .ok (.d x) e) (c : (rs.all fun r => !r.lent) = true ∨ x.flat = true) : callP F rs = some (.fz x) := by
  unfold callP
  rw [h]
  exact if_pos c
theorem callP_fr {F : List S → Out} {rs : List RV} {xs : List D} {e : En} (h : F (rs.map fun r => .d r.view) = .ok (.lst xs) e) (c : (rs.all fun r => !r.lent) = true) : callP F rs = some (.fr xs) := by
  unfold callP
  rw [h]
  exact if_pos (.inl c)
theorem pLc_ok {vs : List Nat} {fi : FI} {bind : FG} {ft : FT} {fe : FP} {e : En} {ds xs : List D} {b : Bool} (h : fi e = some (ds, b)) (h2 : lcL bind ft fe (wipeE e vs) ds = some xs) (hz : xs.length ≤ SZ) : pLc vs fi bind ft fe e = some (.fr xs) := by
  unfold pLc
  rw [h, Option.bind_some, h2, Option.bind_some]
  exact if_pos hz
/-! ### whole numbers -/
theorem nice_int {i : Int} (h : i.natAbs < 2 ^ 64) : (D.int i).nice = true := decide_eq_true (by
  by_cases z : i.natAbs = 0
  · rw [z]; decide
  · exact Nat.lt_of_lt_of_le ((Nat.log2_lt z).mpr h) (by decide))
theorem nice_dints : ∀ {v : List Int}, (∀ i ∈ v, i.natAbs < 2 ^ 64) → niceL (dints v) = true
  | [], _ => rfl
  | i :: v, h => by
    show ((D.int i).nice && niceL (dints v)) = true
    rw [nice_int (h i List.mem_cons_self), nice_dints fun j hj => h j (List.mem_cons_of_mem _ hj)]
    rfl
theorem size_dints : ∀ v : List Int, sizeL (dints v) = v.length
  | [] => rfl
  | i :: v => by
    show 0 + 1 + sizeL (dints v) = _
    rw [size_dints v, List.length_cons]
    omega
theorem dep_dints : ∀ v : List Int, depL (dints v) = 0
  | [] => rfl
  | i :: v => by
    show max 0 (depL (dints v)) = 0
    rw [dep_dints v]
    rfl
@[simp] theorem dints_length (v : List Int) : (dints v).length = v.length := List.length_map ..
@[simp] theorem dints_nil : dints [] = [] := rfl
@[simp] theorem dints_cons (i : Int) (v : List Int) : dints (i :: v) = .int i :: dints v := rfl
theorem dints_append (v w : List Int) : dints (v ++ w) = dints v ++ dints w := List.map_append ..
theorem atI_map {α β : Type} (f : α → β) (xs : List α) (i : Int) : atI (xs.map f) i = (atI xs i).map f := by
  unfold atI
  rw [List.length_map]
  cases ixN xs.length i with
  | none => rfl
  | some j => simp
end DL

set_option maxHeartbeats 4000000
namespace DL
open PySem PySem.Spec PyProof.Rows L2
/-! # What is shown is a string of the language -/
def good (z : Str) : Prop := ∀ c ∈ z.cps.toList, c < 1114112
theorem char_lt (c : Char) : c.toNat < 1114112 := by
  have h : c.val.toNat < 0xd800 ∨ (0xdfff < c.val.toNat ∧ c.val.toNat < 0x110000) := c.valid
  have e : c.toNat = c.val.toNat := rfl
  omega
theorem good_of (s : String) : good (Str.ofString s) := by
  rw [Str.ofString_eq_toList]
  intro c hc
  obtain ⟨d, _, rfl⟩ := List.mem_map.mp (show c ∈ s.toList.map Char.toNat from hc)
  exact char_lt d
theorem good_add {x y : Str} (h : good x) (h2 : good y) : good (x ++ y) := by
  obtain ⟨x⟩ := x
  obtain ⟨y⟩ := y
  intro c hc
  have : c ∈ (x ++ y).toList := hc
  rw [Array.toList_append] at this
  rcases List.mem_append.mp this with q | q
  · exact h c q
  · exact h2 c q
theorem good_join {s : Str} (hs : good s) : ∀ {xs : List Str}, (∀ x ∈ xs, good x) → good (Str.join s xs)
  | [], _ => fun c hc => absurd hc (by show ¬ c ∈ ([] : List Nat); simp)
  | [x], h => h x List.mem_cons_self
  | x :: y :: xs, h => by
    show good (x ++ s ++ Str.join s (y :: xs))
    exact good_add (good_add (h x List.mem_cons_self) hs) (good_join hs fun z hz => h z (List.mem_cons_of_mem _ hz))
theorem good_char {q c : Nat} (hq : q < 1114112) (hc : c < 1114112) : ∀ d ∈ Builtin.Str.reprChar q c, d < 1114112 := by
  have hx : ∀ (w : Nat) d, d ∈ List.replicate (w - ((Nat.toDigits 16 c).map Char.toNat).length) 48 ++ (Nat.toDigits 16 c).map Char.toNat → d < 1114112 := fun w d hd => by
    rcases List.mem_append.mp hd with q | q
    · rw [(List.mem_replicate.mp q).2]; decide
    · obtain ⟨e, _, rfl⟩ := List.mem_map.mp q
      exact char_lt e
  intro d hd
  unfold Builtin.Str.reprChar at hd
  dsimp only at hd
  repeat' split at hd
  all_goals first
    | (simp only [List.mem_cons, List.not_mem_nil, or_false] at hd; omega)
    | (rcases List.mem_append.mp hd with z | z
       · simp only [List.mem_cons, List.not_mem_nil, or_false] at z; omega
       · exact hx _ _ z)
theorem good_fold {q : Nat} (hq : q < 1114112) : ∀ (l : List Nat) (acc : Array Nat), (∀ c ∈ l, c < 1114112) → (∀ c ∈ acc.toList, c < 1114112) → ∀ c ∈ (l.foldl (fun out c => out ++ (Builtin.Str.reprChar q c).toArray) acc).toList, c < 1114112
  | [], _, _, h => h
  | x :: l, acc, hl, h => by
    refine good_fold hq l _ (fun c hc => hl c (List.mem_cons_of_mem _ hc)) fun c hc => ?_
    rw [Array.toList_append] at hc
    rcases List.mem_append.mp hc with z | z
    · exact h c z
    · exact good_char hq (hl x List.mem_cons_self) c z
theorem good_repr {x : Str} (h : good x) : good (reprText x) := by
  have hq : reprQuote x < 1114112 := by unfold reprQuote; split <;> decide
  intro c hc
  unfold reprText at hc
  rw [Array.toList_push, ← Array.foldl_toList] at hc
  rcases List.mem_append.mp hc with z | z
  · exact good_fold hq _ _ h (fun d hd => by have : d = reprQuote x := by simpa using hd
                                             rw [this]; exact hq) c z
  · rw [List.mem_singleton.mp z]; exact hq
mutual
theorem good_shown : ∀ d : D, d.nice = true → good d.py.shown
  | .non, _ => by simp only [D.py, PyData.shown_none]; exact good_of _
  | .bl b, _ => by
    simp only [D.py, PyData.shown_bool]
    cases b <;> exact good_of _
  | .int i, _ => by simp only [D.py, PyData.shown_int]; exact good_of _
  | .str x, h => by
    simp only [D.py, PyData.shown_str]
    exact good_repr fun c hc => of_decide_eq_true (List.all_eq_true.mp (show (x.cps.toList.all fun c => decide (c < 1114112)) = true from h) c hc)
  | .tup xs, h => by
    simp only [D.py, PyData.shown_tuple]
    exact good_add (good_add (good_of _) (good_join (good_of _) (good_shownL xs h))) (good_of _)
  | .lst xs, h => by
    simp only [D.py, PyData.shown_list]
    exact good_add (good_add (good_of _) (good_join (good_of _) (good_shownL xs h))) (good_of _)
  | .ro xs, h => by
    simp only [D.py, PyData.shown_list]
    exact good_add (good_add (good_of _) (good_join (good_of _) (good_shownL xs h))) (good_of _)
theorem good_shownL : ∀ ds : List D, niceL ds = true → ∀ x ∈ PyData.shownAll (pyL ds), good x
  | [], _ => fun x hx => absurd hx (by simp only [pyL, PyData.shownAll_nil]; simp)
  | d :: ds, h => by
    obtain ⟨a, b⟩ := Bool.and_eq_true_iff.mp (show (d.nice && niceL ds) = true from h)
    intro x hx
    simp only [pyL, PyData.shownAll_cons] at hx
    rcases List.mem_cons.mp hx with rfl | q
    · exact good_shown d a
    · exact good_shownL ds b x q
end
theorem good.nice {z : Str} (h : good z) : (D.str z).nice = true := by
  show (z.cps.toList.all fun c => decide (c < 1114112)) = true
  rw [List.all_eq_true]
  exact fun c hc => decide_eq_true (h c hc)
/-- two shown alike are told equal -/
theorem shown_ne_same {x : D} (h : x.nice = true) : gNe (.str x.py.shown) (.str x.py.shown) = some (.fz (.bl false)) := by
  have n := (good_shown x h).nice
  rw [gNe_nice n n (Nat.zero_le _) (Nat.zero_le _), eqb_refl n]
  rfl
end DL

set_option maxHeartbeats 0
namespace G13
open PySem PySem.Spec PyProof.Rows L2 DL
/-! ## mirrors -/
def FUEL : Nat := 1000000
def cmBadText (x : Str) : Option Bool := if x = "BadText" then some true else none
def B_is_integer : FS := (sRet (mPP (pAnd (pIsi .int (pName 0)) (pNot (pIsi .bool (pName 0))))))
def F_is_integer : List S → Out := fnF 1 [] B_is_integer
def B_is_reduced : FS := (sRet (mPP (pCa gAll (aCons (pLc [1, 2] (iZip (aCons (pName 0) (aCons (pSl (pName 0) (oSome (pCon (.int 1))) oNone) aNil))) (gTp 2 (gsCons (gNm 1) (gsCons (gNm 2) gsNil))) tAll (p2 gNe (p2 gAdd (pName 1) (pName 2)) (pCon (.int 0)))) aNil))))
def F_is_reduced : List S → Out := fnF 3 [] B_is_reduced
def B_word_told : FS := (sRet (mPP (pIf (tVal (p2 gEq (pName 0) (pTup aNil))) (pCon (.str "1")) (pSm gJoin (pCon (.str "")) (aCons (pLc [1] (iSeq (pName 0)) (gNm 1) tAll (p2 gIx (pCon (.str "abcdABCD")) (pTi [1, 2, 3, 4, -1, -2, -3, -4] (pName 1)))) aNil)))))
def F_word_told : List S → Out := fnF 2 [] B_word_told
def B__law_pot : FS := (sSeq (sSet 2 (mPP (p2 gAdd (p2 gMul (pCon (.int 1297)) (pName 1)) (pCon (.int 9587))))) (sSeq (sIf (tMT (tVal (p2 gLt (pName 1) (pCa gLen (aCons (pName 0) aNil))))) (sSet 2 (mPP (pCa gAbs (aCons (p2 gIx (pName 0) (pName 1)) aNil)))) sNil) (sRet (mPP (pLst (aCons (pCa gMax2 (aCons (pCon (.int 0)) (aCons (p2 gSub (pName 2) (p2 gPow (pCon (.int 10)) (pCon (.int 18)))) aNil))) (aCons (p2 gAdd (p2 gMod (pCa gInt (aCons (p2 gAdd (p2 gAdd (p2 gMul (p2 gMod (pCa gInt (aCons (pName 2) aNil)) (pCon (.int 2147483549))) (pCon (.int 40014))) (p2 gMul (pCon (.int 9587)) (pName 1))) (pCon (.int 61))) aNil)) (pCon (.int 2147483563))) (pCon (.int 1))) aNil)))))))
def F__law_pot : List S → Out := fnF 3 [] B__law_pot
def B__law_draw : FS := (sSeq (sIf (tMT (tVal (p2 gGt (p2 gIx (pName 0) (pCon (.int 0))) (pCon (.int 0))))) (sSeq (sAsg (mPP (pCa gDivmod (aCons (p2 gIx (pName 0) (pCon (.int 0))) (aCons (pName 1) aNil)))) (gTp 2 (gsCons (gSet 0 (pCon (.int 0))) (gsCons (gNm 2) gsNil)))) (sRet (mPP (pName 2)))) sNil) (sSeq (sAsg (mPP (p2 gMod (pCa gInt (aCons (p2 gAdd (p2 gMul (p2 gIx (pName 0) (pCon (.int 1))) (pCon (.int 39373))) (pCon (.int 1301))) aNil)) (pCon (.int 2147483587)))) (gSet 0 (pCon (.int 1)))) (sRet (mPP (p2 gMod (pCa gInt (aCons (p2 gFdiv (p2 gMod (pCa gInt (aCons (p2 gMul (p2 gIx (pName 0) (pCon (.int 1))) (p2 gIx (pName 0) (pCon (.int 1)))) aNil)) (pCon (.int 2147483563))) (pCon (.int 19))) aNil)) (pName 1))))))
def F__law_draw : List S → Out := fnF 3 [0] B__law_draw
def B__law_letters : FS := (sSeq (sSetO 1 (mPP (pLst aNil))) (sSeq (sFor (iRg2 (aCons (pCon (.int 1)) (aCons (p2 gAdd (pName 0) (pCon (.int 1))) aNil))) (gNm 2) (sExpr (mMt 1 gExt (mPP (pLst (aCons (pName 2) (aCons (p2 gSub (pCon (.int 0)) (pName 2)) aNil))))))) (sRetMv 1)))
def F__law_letters : List S → Out := fnF 3 [] B__law_letters
def B__law_text : FS := (sRet (mPP (pIf (tVal (p2 gEq (pName 0) (pTup aNil))) (pCon (.str "1")) (pSm gJoin (pCon (.str "")) (aCons (pLc [1] (iSeq (pName 0)) (gNm 1) tAll (pIf (tVal (p2 gGt (pName 1) (pCon (.int 0)))) (p2 gIx (pCon (.str "abcd")) (p2 gSub (pName 1) (pCon (.int 1)))) (p2 gIx (pCon (.str "ABCD")) (p2 gSub (p2 gSub (pCon (.int 0)) (pName 1)) (pCon (.int 1)))))) aNil)))))
def F__law_text : List S → Out := fnF 2 [] B__law_text
def B__law_read : FS := (sSeq (sIf (tMT (tVal (p2 gEq (pName 1) (pCon (.str "1"))))) (sRet (mPP (pTup aNil))) sNil) (sSeq (sSetO 2 (mPP (pLst aNil))) (sSeq (sFor (iSeq (pName 1)) (gNm 3) (sSeq (sIf (tMT (tVal (p2 gNotIn (pName 3) (p2 gAdd (pSl (pCon (.str "abcd")) oNone (oSome (pName 0))) (pSl (pCon (.str "ABCD")) oNone (oSome (pName 0))))))) (sRet (mPP (pCon .non))) sNil) (sSeq (sSet 4 (mPP (pIf (tVal (p2 gIn (pName 3) (pCon (.str "abcd")))) (p2 gAdd (pSm gSindex (pCon (.str "abcd")) (aCons (pName 3) aNil)) (pCon (.int 1))) (p2 gSub (p2 gSub (pCon (.int 0)) (pSm gSindex (pCon (.str "ABCD")) (aCons (pName 3) aNil))) (pCon (.int 1)))))) (sSeq (sIf (tMT (tAnd (tVal (p2 gNe (pName 2) (pLst aNil))) (tVal (p2 gEq (p2 gAdd (p2 gIx (pName 2) (p1 gNeg (pCon (.int 1)))) (pName 4)) (pCon (.int 0)))))) (sRet (mPP (pCon .non))) sNil) (sExpr (mMt 2 gApp (mPP (pName 4)))))))) (sRet (mPP (pIf (tVal (pChain gLt gLt (pCon (.int 0)) (pCa gLen (aCons (pName 2) aNil)) (pCon (.int 61)))) (pCa gTuple (aCons (pName 2) aNil)) (pCon .non)))))))
def F__law_read : List S → Out := fnF 5 [] B__law_read
def B_is_letter : FS := (sRet (mPP (pAnd (pFd F_is_integer (aCons (pName 1) aNil)) (pChain gLe gLe (pCon (.int 1)) (pCa gAbs (aCons (pName 1) aNil)) (pName 0)))))
def F_is_letter : List S → Out := fnF 2 [] B_is_letter
def B_want_rank : FS := (sIf (tMT (tOr (tNot (tVal (pFd F_is_integer (aCons (pName 0) aNil)))) (tNot (tVal (pChain gLe gLe (pCon (.int 1)) (pName 0) (pCon (.int 4))))))) sStuck sNil)
def F_want_rank : List S → Out := fnF 1 [] B_want_rank
def B__law_pick : FS := (sRet (m2 gIx (mPP (pName 1)) (mFd 2 F__law_draw (arBw 0 (arFz (mPP (pCa gLen (aCons (pName 1) aNil))) arNil)))))
def F__law_pick : List S → Out := fnF 2 [0] B__law_pick
def B_is_row : FS := (sRet (mPP (pAnd (pIsi .tuple (pName 1)) (pAnd (p2 gLe (pCa gLen (aCons (pName 1) aNil)) (pCon (.int 240))) (pCa gAll (aCons (pLc [2] (iSeq (pName 1)) (gNm 2) tAll (pFd F_is_letter (aCons (pName 0) (aCons (pName 2) aNil)))) aNil))))))
def F_is_row : List S → Out := fnF 3 [] B_is_row
def B__law_word : FS := (sSeq (sSet 3 (mPP (pTup aNil))) (sSeq (sFor (iRg1 (aCons (pName 2) aNil)) (gNm 4) (sSeq (sSet 5 (mPP (pLc [6] (iSeq (pFd F__law_letters (aCons (pName 1) aNil))) (gNm 6) (tOr (tVal (p2 gEq (pName 3) (pTup aNil))) (tVal (p2 gNe (pName 6) (p2 gSub (pCon (.int 0)) (p2 gIx (pName 3) (p1 gNeg (pCon (.int 1)))))))) (pName 6)))) (sSet 3 (m2 gAdd (mPP (pName 3)) (mTup (lCons (mFd 2 F__law_pick (arBw 0 (arFz (mPP (pName 5)) arNil))) lNil)))))) (sRet (mPP (pName 3)))))
def F__law_word : List S → Out := fnF 7 [0] B__law_word
def B__law_bent : FS := (sSeq (sSet 2 (mFd 2 F__law_draw (arBw 0 (arFz (mPP (p2 gAdd (pCa gLen (aCons (pName 1) aNil)) (pCon (.int 1)))) arNil)))) (sSeq (sSet 3 (mFd 2 F__law_pick (arBw 0 (arFz (mPP (pLst (aCons (pCon (.str "a")) (aCons (pCon (.str "A")) (aCons (pCon (.str "b")) (aCons (pCon (.str "B")) (aCons (pCon (.str "c")) (aCons (pCon (.str "D")) (aCons (pCon (.str "1")) (aCons (pCon (.str " ")) (aCons (pCon (.str "e")) (aCons (pCon (.str "")) (aCons (pCon (.str "0")) (aCons (pCon (.str "ab")) (aCons (pCon (.str "x")) aNil))))))))))))))) arNil)))) (sRet (mFd 2 F__law_pick (arBw 0 (arFz (mPP (pLst (aCons (p2 gAdd (p2 gAdd (pSl (pName 1) oNone (oSome (pName 2))) (pName 3)) (pSl (pName 1) (oSome (pName 2)) oNone)) (aCons (p2 gAdd (p2 gAdd (pSl (pName 1) oNone (oSome (pName 2))) (pName 3)) (pSl (pName 1) (oSome (p2 gAdd (pName 2) (pCon (.int 1)))) oNone)) (aCons (p2 gAdd (pSl (pName 1) oNone (oSome (pName 2))) (pSl (pName 1) (oSome (p2 gAdd (pName 2) (pCon (.int 1)))) oNone)) (aCons (pRev (pName 1)) (aCons (p2 gAdd (pName 1) (pName 1)) aNil))))))) arNil))))))
def F__law_bent : List S → Out := fnF 4 [0] B__law_bent
def B_is_word : FS := (sRet (mPP (pAnd (pFd F_is_row (aCons (pName 0) (aCons (pName 1) aNil))) (pAnd (p2 gLe (pCa gLen (aCons (pName 1) aNil)) (pCon (.int 60))) (pFd F_is_reduced (aCons (pName 1) aNil))))))
def F_is_word : List S → Out := fnF 2 [] B_is_word
def B_want_word : FS := (sIf (tMT (tNot (tVal (pFd F_is_word (aCons (pName 0) (aCons (pName 1) aNil)))))) sStuck sNil)
def F_want_word : List S → Out := fnF 2 [] B_want_word
def B_word_read : FS := (sSeq (sIf (tMT (tVal (p2 gEq (pName 1) (pCon (.str "1"))))) (sRet (mPP (pTup aNil))) sNil) (sSeq (sIf (tMT (tOr (tVal (p2 gEq (pName 1) (pCon (.str "")))) (tNot (tVal (pCa gAll (aCons (pLc [3] (iSeq (pName 1)) (gNm 3) tAll (p2 gIn (pName 3) (pCon (.str "abcdABCD")))) aNil)))))) (sRet (mPP (pCon .non))) sNil) (sSeq (sSet 2 (mPP (pCa gTuple (aCons (pLc [3] (iSeq (pName 1)) (gNm 3) tAll (p2 gIx (pCon (.tup (dints [1, 2, 3, 4, -1, -2, -3, -4]))) (pSm gSindex (pCon (.str "abcdABCD")) (aCons (pName 3) aNil)))) aNil)))) (sRet (mPP (pIf (tVal (pFd F_is_word (aCons (pName 0) (aCons (pName 2) aNil)))) (pName 2) (pCon .non)))))))
def F_word_read : List S → Out := fnF 4 [] B_word_read
def B_want_ranked : FS := (sSeq (sExpr (mPP (pFd F_want_rank (aCons (pName 0) aNil)))) (sExpr (mPP (pFd F_want_word (aCons (pName 0) (aCons (pName 1) aNil))))))
def F_want_ranked : List S → Out := fnF 2 [] B_want_ranked
def B_read_word : FS := (sSeq (sExpr (mFd 1 F_want_rank (arFz (mPP (pName 0)) arNil))) (sSeq (sSet 2 (mPP (pIf (tVal (pIsi .str (pName 1))) (pFd F_word_read (aCons (pName 0) (aCons (pName 1) aNil))) (pCon .non)))) (sSeq (sIf (tMT (tVal (p2 gIs (pName 2) (pCon .non)))) (sRaise "BadText" "position" (mPP (pCon .non))) sNil) (sRet (mPP (pName 2))))))
def F_read_word : List S → Out := fnF 3 [] B_read_word
def B_word_text : FS := (sSeq (sExpr (mPP (pFd F_want_ranked (aCons (pName 0) (aCons (pName 1) aNil))))) (sRet (mPP (pFd F_word_told (aCons (pName 1) aNil)))))
def F_word_text : List S → Out := fnF 2 [] B_word_text
def B__law_heard : FS := (sSeq (sSet 2 (mPP (pCon .non))) (sSeq (sTry cmBadText 3 (sSet 2 (mLst (lCons (mPP (pCon (.str "told"))) (lCons (mFd 2 F_read_word (arFz (mPP (pName 0)) (arFz (mPP (pName 1)) arNil))) lNil)))) (sxSet 2 (fun x => pLst ((fun x => aCons ((fun _ => (pCon (.str "bad"))) x) ((fun x => aCons ((xFld "BadText" "position") x) ((fun x => aCons ((xIsi "BadText" true) x) ((fun _ => aNil) x)) x)) x)) x)))) (sRet (mPP (pName 2)))))
def F__law_heard : List S → Out := fnF 4 [] B__law_heard
def B__law_right : FS := (sSeq (sSet 1 (m2 gAdd (mPP (pCon (.int 1))) (mFd 2 F__law_draw (arBw 0 (arFz (mPP (pCon (.int 4))) arNil))))) (sSeq (sFor (iRg1 (aCons (pCon (.int 4)) aNil)) (gNm 2) (sSeq (sSet 3 (mFd 3 F__law_word (arBw 0 (arFz (mPP (pName 1)) (arFz (mFd 2 F__law_draw (arBw 0 (arFz (mFd 2 F__law_pick (arBw 0 (arFz (mPP (pLst (aCons (pCon (.int 4)) (aCons (pCon (.int 16)) (aCons (pCon (.int 61)) aNil))))) arNil))) arNil))) arNil))))) (sSeq (sSet 4 (mPP (pFd F__law_text (aCons (pName 3) aNil)))) (sSeq (sIf (tMT (tVal (p2 gNe (pCa gRepr (aCons (pLst (aCons (pFd F_word_text (aCons (pName 1) (aCons (pName 3) aNil))) (aCons (pFdK F_word_text (permG 0 2 [1, 0]) 2 aNil (aCons (pName 3) (aCons (pName 1) aNil))) aNil))) aNil)) (pCa gRepr (aCons (pLst (aCons (pName 4) (aCons (pName 4) aNil))) aNil))))) (sRet (mPP (pCon (.bl false)))) sNil) (sSeq (sIf (tMT (tVal (p2 gNe (pCa gRepr (aCons (pLst (aCons (pFd F_read_word (aCons (pName 1) (aCons (pName 4) aNil))) (aCons (pFdK F_read_word (permG 0 2 [1, 0]) 2 aNil (aCons (pName 4) (aCons (pName 1) aNil))) (aCons (pFd F_word_text (aCons (pCon (.int 4)) (aCons (pName 3) aNil))) aNil)))) aNil)) (pCa gRepr (aCons (pLst (aCons (pName 3) (aCons (pName 3) (aCons (pName 4) aNil)))) aNil))))) (sRet (mPP (pCon (.bl false)))) sNil) (sForM (m2 gAdd (mLc [7] (iRg1 (aCons (pCon (.int 8)) aNil)) (gNm 7) tAll (mFd 2 F__law_bent (arBw 0 (arFz (mPP (pName 4)) arNil)))) (mPP (pLst (aCons (pCon (.str "")) (aCons (pCon (.str "1")) (aCons (pCon (.str "a")) (aCons (pCon (.str "aA")) (aCons (p2 gMul (pCon (.str "A")) (pCon (.int 60))) (aCons (p2 gMul (pCon (.str "A")) (pCon (.int 61))) (aCons (pCon (.str "ab")) (aCons (pCon (.str "d")) aNil))))))))))) (gNm 5) (sSeq (sSet 6 (mPP (pFd F__law_read (aCons (pName 1) (aCons (pName 5) aNil))))) (sIf (tMT (tVal (p2 gNe (pCa gRepr (aCons (pFd F__law_heard (aCons (pName 1) (aCons (pName 5) aNil))) aNil)) (pCa gRepr (aCons (pIf (tVal (p2 gIs (pName 6) (pCon .non))) (pLst (aCons (pCon (.str "bad")) (aCons (pCon .non) (aCons (pCon (.bl true)) aNil)))) (pLst (aCons (pCon (.str "told")) (aCons (pName 6) aNil)))) aNil))))) (sRet (mPP (pCon (.bl false)))) sNil)))))))) (sRet (mPP (pCa gAll (aCons (pLc [8] (iSeq (pLst (aCons (pCon .non) (aCons (pCon (.int 0)) (aCons (pCon (.int 1)) (aCons (pTup (aCons (pCon (.int 1)) aNil)) (aCons (pLst (aCons (pCon (.str "a")) aNil)) (aCons (pCon (.bl true)) (aCons pDic0 aNil))))))))) (gNm 8) tAll (p2 gEq (pFd F__law_heard (aCons (pName 1) (aCons (pName 8) aNil))) (pLst (aCons (pCon (.str "bad")) (aCons (pCon .non) (aCons (pCon (.bl true)) aNil)))))) aNil))))))
def F__law_right : List S → Out := fnF 9 [0] B__law_right
def B_law : FS := (sRet (mCa gAll (lCons (mLc [1] (iRg1 (aCons (pCa gMax2 (aCons (pCon (.int 1)) (aCons (pCa gMin2 (aCons (pCon (.int 2)) (aCons (pCa gLen (aCons (pName 0) aNil)) aNil))) aNil))) aNil)) (gNm 1) tAll (mFd 1 F__law_right (arOw (mPP (pFd F__law_pot (aCons (pName 0) (aCons (pName 1) aNil)))) arNil))) lNil)))
def F_law : List S → Out := fnF 2 [] B_law
/-! ## the text -/
def topS (i : Nat) : Stmt := PySem.Challenge.pw_wordhandfuls_k13_whole_texts_of_words.main.body.getD i (.Pass ⟨0, 0, 0, 0⟩)
def d_is_integer : He.DefD := ⟨("is_integer", none), "is_integer", "is_integer", defArgs (topS 6), defBody (topS 6), defScope (topS 6), [], []⟩
def d_is_reduced : He.DefD := ⟨("is_reduced", none), "is_reduced", "is_reduced", defArgs (topS 13), defBody (topS 13), defScope (topS 13), [], []⟩
def d_word_told : He.DefD := ⟨("word_told", none), "word_told", "word_told", defArgs (topS 22), defBody (topS 22), defScope (topS 22), [], []⟩
def d__law_pot : He.DefD := ⟨("_law_pot", none), "_law_pot", "_law_pot", defArgs (topS 27), defBody (topS 27), defScope (topS 27), [], []⟩
def d__law_draw : He.DefD := ⟨("_law_draw", none), "_law_draw", "_law_draw", defArgs (topS 28), defBody (topS 28), defScope (topS 28), [], []⟩
def d__law_letters : He.DefD := ⟨("_law_letters", none), "_law_letters", "_law_letters", defArgs (topS 31), defBody (topS 31), defScope (topS 31), [], []⟩
def d__law_text : He.DefD := ⟨("_law_text", none), "_law_text", "_law_text", defArgs (topS 37), defBody (topS 37), defScope (topS 37), [], []⟩
def d__law_read : He.DefD := ⟨("_law_read", none), "_law_read", "_law_read", defArgs (topS 38), defBody (topS 38), defScope (topS 38), [], []⟩
def d_is_letter : He.DefD := ⟨("is_letter", none), "is_letter", "is_letter", defArgs (topS 11), defBody (topS 11), defScope (topS 11), [], []⟩
def d_want_rank : He.DefD := ⟨("want_rank", none), "want_rank", "want_rank", defArgs (topS 15), defBody (topS 15), defScope (topS 15), [], []⟩
def d__law_pick : He.DefD := ⟨("_law_pick", none), "_law_pick", "_law_pick", defArgs (topS 29), defBody (topS 29), defScope (topS 29), [], []⟩
def d_is_row : He.DefD := ⟨("is_row", none), "is_row", "is_row", defArgs (topS 12), defBody (topS 12), defScope (topS 12), [], []⟩
def d__law_word : He.DefD := ⟨("_law_word", none), "_law_word", "_law_word", defArgs (topS 36), defBody (topS 36), defScope (topS 36), [], []⟩
def d__law_bent : He.DefD := ⟨("_law_bent", none), "_law_bent", "_law_bent", defArgs (topS 40), defBody (topS 40), defScope (topS 40), [], []⟩
def d_is_word : He.DefD := ⟨("is_word", none), "is_word", "is_word", defArgs (topS 14), defBody (topS 14), defScope (topS 14), [], []⟩
def d_want_word : He.DefD := ⟨("want_word", none), "want_word", "want_word", defArgs (topS 16), defBody (topS 16), defScope (topS 16), [], []⟩
def d_word_read : He.DefD := ⟨("word_read", none), "word_read", "word_read", defArgs (topS 23), defBody (topS 23), defScope (topS 23), [], []⟩
def d_want_ranked : He.DefD := ⟨("want_ranked", none), "want_ranked", "want_ranked", defArgs (topS 17), defBody (topS 17), defScope (topS 17), [], []⟩
def d_read_word : He.DefD := ⟨("read_word", none), "read_word", "read_word", defArgs (topS 25), defBody (topS 25), defScope (topS 25), [], []⟩
def d_word_text : He.DefD := ⟨("word_text", none), "word_text", "word_text", defArgs (topS 24), defBody (topS 24), defScope (topS 24), [], []⟩
def d__law_heard : He.DefD := ⟨("_law_heard", none), "_law_heard", "_law_heard", defArgs (topS 39), defBody (topS 39), defScope (topS 39), [], []⟩
def d__law_right : He.DefD := ⟨("_law_right", none), "_law_right", "_law_right", defArgs (topS 41), defBody (topS 41), defScope (topS 41), [], []⟩
def d_law : He.DefD := ⟨("law", none), "law", "law", defArgs (topS 42), defBody (topS 42), defScope (topS 42), [], []⟩
def x_BadText : Stmt := (cBody (topS 4)).getD 0 (.Pass ⟨0, 0, 0, 0⟩)
def d_BadText_init : He.DefD := ⟨("BadText", some "__init__"), "__init__", "BadText.__init__", defArgs x_BadText, defBody x_BadText, defScope x_BadText, [], []⟩
theorem bn_is_integer : BindsA d_is_integer ["value"] := fun kV doc pm an cdv ct us hl => match us, hl with | [_], _ => rfl
theorem bn_is_reduced : BindsA d_is_reduced ["row"] := fun kV doc pm an cdv ct us hl => match us, hl with | [_], _ => rfl
theorem bn_word_told : BindsA d_word_told ["word"] := fun kV doc pm an cdv ct us hl => match us, hl with | [_], _ => rfl
theorem bn__law_pot : BindsA d__law_pot ["script", "k"] := fun kV doc pm an cdv ct us hl => match us, hl with | [_, _], _ => rfl
theorem bn__law_draw : BindsA d__law_draw ["pot", "many"] := fun kV doc pm an cdv ct us hl => match us, hl with | [_, _], _ => rfl
theorem bn__law_letters : BindsA d__law_letters ["rank"] := fun kV doc pm an cdv ct us hl => match us, hl with | [_], _ => rfl
theorem bn__law_text : BindsA d__law_text ["word"] := fun kV doc pm an cdv ct us hl => match us, hl with | [_], _ => rfl
theorem bn__law_read : BindsA d__law_read ["rank", "text"] := fun kV doc pm an cdv ct us hl => match us, hl with | [_, _], _ => rfl
theorem bn_is_letter : BindsA d_is_letter ["rank", "value"] := fun kV doc pm an cdv ct us hl => match us, hl with | [_, _], _ => rfl
theorem bn_want_rank : BindsA d_want_rank ["value"] := fun kV doc pm an cdv ct us hl => match us, hl with | [_], _ => rfl
theorem bn__law_pick : BindsA d__law_pick ["pot", "some"] := fun kV doc pm an cdv ct us hl => match us, hl with | [_, _], _ => rfl
theorem bn_is_row : BindsA d_is_row ["rank", "value"] := fun kV doc pm an cdv ct us hl => match us, hl with | [_, _], _ => rfl
theorem bn__law_word : BindsA d__law_word ["pot", "rank", "many"] := fun kV doc pm an cdv ct us hl => match us, hl with | [_, _, _], _ => rfl
theorem bn__law_bent : BindsA d__law_bent ["pot", "text"] := fun kV doc pm an cdv ct us hl => match us, hl with | [_, _], _ => rfl
theorem bn_is_word : BindsA d_is_word ["rank", "value"] := fun kV doc pm an cdv ct us hl => match us, hl with | [_, _], _ => rfl
theorem bn_want_word : BindsA d_want_word ["rank", "value"] := fun kV doc pm an cdv ct us hl => match us, hl with | [_, _], _ => rfl
theorem bn_word_read : BindsA d_word_read ["rank", "text"] := fun kV doc pm an cdv ct us hl => match us, hl with | [_, _], _ => rfl
theorem bn_want_ranked : BindsA d_want_ranked ["rank", "word"] := fun kV doc pm an cdv ct us hl => match us, hl with | [_, _], _ => rfl
theorem bn_read_word : BindsA d_read_word ["rank", "text"] := fun kV doc pm an cdv ct us hl => match us, hl with | [_, _], _ => rfl
theorem bn_word_text : BindsA d_word_text ["rank", "word"] := fun kV doc pm an cdv ct us hl => match us, hl with | [_, _], _ => rfl
theorem bn__law_heard : BindsA d__law_heard ["rank", "text"] := fun kV doc pm an cdv ct us hl => match us, hl with | [_, _], _ => rfl
theorem bn__law_right : BindsA d__law_right ["pot"] := fun kV doc pm an cdv ct us hl => match us, hl with | [_], _ => rfl
theorem bn_law : BindsA d_law ["script"] := fun kV doc pm an cdv ct us hl => match us, hl with | [_], _ => rfl
theorem bk_word_text_0_word_rank : BindsK d_word_text ["rank", "word"] ["word", "rank"] (permG 0 2 [1, 0]) := fun kV doc pm an cdv ct us ws hl => match us, ws, permG_ok hl (by decide) with
  | [], [_, _], _ => rfl
theorem bk_read_word_0_text_rank : BindsK d_read_word ["rank", "text"] ["text", "rank"] (permG 0 2 [1, 0]) := fun kV doc pm an cdv ct us ws hl => match us, ws, permG_ok hl (by decide) with
  | [], [_, _], _ => rfl
/-! ## what the head says -/
structure Fx (K : PySem.W.Frag) (mg : Str → Option Value) : Prop where
  f_abs : mg "abs" = none
  f_all : mg "all" = none
  f_bool : mg "bool" = none
  f_divmod : mg "divmod" = none
  f_int : mg "int" = none
  f_isinstance : mg "isinstance" = none
  f_len : mg "len" = none
  f_max : mg "max" = none
  f_min : mg "min" = none
  f_range : mg "range" = none
  f_repr : mg "repr" = none
  f_str : mg "str" = none
  f_tuple : mg "tuple" = none
  f_zip : mg "zip" = none
  c_EMPTY : ∃ t, mg "EMPTY" = some (.str "1" t)
  g_LETTERS : mg "LETTERS" = some (.ref (He.ga K "LETTERS"))
  t_LETTERS : (∀ H, SqT K H (He.ga K "LETTERS") (([1, 2, 3, 4, -1, -2, -3, -4] : List Int).map V.int)) ∧ ∃ o, K.lookup (He.ga K "LETTERS") = some o ∧ o.cls = .type "tuple" ∧ o.dict = none
  c_MOST_RANK : ∃ t, mg "MOST_RANK" = some (.int 4 t)
  c_MOST_ROW : ∃ t, mg "MOST_ROW" = some (.int 240 t)
  c_MOST_WORD : ∃ t, mg "MOST_WORD" = some (.int 60 t)
  c_SIGNS : ∃ t, mg "SIGNS" = some (.str "abcdABCD" t)
  g_BadText : mg "BadText" = some (.ref (He.ga K "BadText"))
  g_HandfulError : mg "HandfulError" = some (.ref (He.ga K "HandfulError"))
  e_BadText : EC K mg "BadText" "position" "BadText.__init__" (He.ga K "BadText") (He.ma K (He.ga K "BadText") "__init__")
  m_BadText : PySem.W.exmOne K (.ref (He.ga K "BadText")) (.ref (He.ga K "BadText")) = some true
  k_BadText_HandfulError : PySem.W.kitOne K (.ref (He.ga K "BadText")) (.ref (He.ga K "HandfulError")) = some true
  n_is_integer : mg "is_integer" = some (.ref (He.ga K "is_integer"))
  d_is_integer : ∃ fd, FunD K d_is_integer.name d_is_integer.qual d_is_integer.params d_is_integer.body d_is_integer.scope (d_is_integer.dvs K) (d_is_integer.kws K) (He.fAd K d_is_integer.at_) fd
  n_is_reduced : mg "is_reduced" = some (.ref (He.ga K "is_reduced"))
  d_is_reduced : ∃ fd, FunD K d_is_reduced.name d_is_reduced.qual d_is_reduced.params d_is_reduced.body d_is_reduced.scope (d_is_reduced.dvs K) (d_is_reduced.kws K) (He.fAd K d_is_reduced.at_) fd
  n_word_told : mg "word_told" = some (.ref (He.ga K "word_told"))
  d_word_told : ∃ fd, FunD K d_word_told.name d_word_told.qual d_word_told.params d_word_told.body d_word_told.scope (d_word_told.dvs K) (d_word_told.kws K) (He.fAd K d_word_told.at_) fd
  n__law_pot : mg "_law_pot" = some (.ref (He.ga K "_law_pot"))
  d__law_pot : ∃ fd, FunD K d__law_pot.name d__law_pot.qual d__law_pot.params d__law_pot.body d__law_pot.scope (d__law_pot.dvs K) (d__law_pot.kws K) (He.fAd K d__law_pot.at_) fd
  n__law_draw : mg "_law_draw" = some (.ref (He.ga K "_law_draw"))
  d__law_draw : ∃ fd, FunD K d__law_draw.name d__law_draw.qual d__law_draw.params d__law_draw.body d__law_draw.scope (d__law_draw.dvs K) (d__law_draw.kws K) (He.fAd K d__law_draw.at_) fd
  n__law_letters : mg "_law_letters" = some (.ref (He.ga K "_law_letters"))
  d__law_letters : ∃ fd, FunD K d__law_letters.name d__law_letters.qual d__law_letters.params d__law_letters.body d__law_letters.scope (d__law_letters.dvs K) (d__law_letters.kws K) (He.fAd K d__law_letters.at_) fd
  n__law_text : mg "_law_text" = some (.ref (He.ga K "_law_text"))
  d__law_text : ∃ fd, FunD K d__law_text.name d__law_text.qual d__law_text.params d__law_text.body d__law_text.scope (d__law_text.dvs K) (d__law_text.kws K) (He.fAd K d__law_text.at_) fd
  n__law_read : mg "_law_read" = some (.ref (He.ga K "_law_read"))
  d__law_read : ∃ fd, FunD K d__law_read.name d__law_read.qual d__law_read.params d__law_read.body d__law_read.scope (d__law_read.dvs K) (d__law_read.kws K) (He.fAd K d__law_read.at_) fd
  n_is_letter : mg "is_letter" = some (.ref (He.ga K "is_letter"))
  d_is_letter : ∃ fd, FunD K d_is_letter.name d_is_letter.qual d_is_letter.params d_is_letter.body d_is_letter.scope (d_is_letter.dvs K) (d_is_letter.kws K) (He.fAd K d_is_letter.at_) fd
  n_want_rank : mg "want_rank" = some (.ref (He.ga K "want_rank"))
  d_want_rank : ∃ fd, FunD K d_want_rank.name d_want_rank.qual d_want_rank.params d_want_rank.body d_want_rank.scope (d_want_rank.dvs K) (d_want_rank.kws K) (He.fAd K d_want_rank.at_) fd
  n__law_pick : mg "_law_pick" = some (.ref (He.ga K "_law_pick"))
  d__law_pick : ∃ fd, FunD K d__law_pick.name d__law_pick.qual d__law_pick.params d__law_pick.body d__law_pick.scope (d__law_pick.dvs K) (d__law_pick.kws K) (He.fAd K d__law_pick.at_) fd
  n_is_row : mg "is_row" = some (.ref (He.ga K "is_row"))
  d_is_row : ∃ fd, FunD K d_is_row.name d_is_row.qual d_is_row.params d_is_row.body d_is_row.scope (d_is_row.dvs K) (d_is_row.kws K) (He.fAd K d_is_row.at_) fd
  n__law_word : mg "_law_word" = some (.ref (He.ga K "_law_word"))
  d__law_word : ∃ fd, FunD K d__law_word.name d__law_word.qual d__law_word.params d__law_word.body d__law_word.scope (d__law_word.dvs K) (d__law_word.kws K) (He.fAd K d__law_word.at_) fd
  n__law_bent : mg "_law_bent" = some (.ref (He.ga K "_law_bent"))
  d__law_bent : ∃ fd, FunD K d__law_bent.name d__law_bent.qual d__law_bent.params d__law_bent.body d__law_bent.scope (d__law_bent.dvs K) (d__law_bent.kws K) (He.fAd K d__law_bent.at_) fd
  n_is_word : mg "is_word" = some (.ref (He.ga K "is_word"))
  d_is_word : ∃ fd, FunD K d_is_word.name d_is_word.qual d_is_word.params d_is_word.body d_is_word.scope (d_is_word.dvs K) (d_is_word.kws K) (He.fAd K d_is_word.at_) fd
  n_want_word : mg "want_word" = some (.ref (He.ga K "want_word"))
  d_want_word : ∃ fd, FunD K d_want_word.name d_want_word.qual d_want_word.params d_want_word.body d_want_word.scope (d_want_word.dvs K) (d_want_word.kws K) (He.fAd K d_want_word.at_) fd
  n_word_read : mg "word_read" = some (.ref (He.ga K "word_read"))
  d_word_read : ∃ fd, FunD K d_word_read.name d_word_read.qual d_word_read.params d_word_read.body d_word_read.scope (d_word_read.dvs K) (d_word_read.kws K) (He.fAd K d_word_read.at_) fd
  n_want_ranked : mg "want_ranked" = some (.ref (He.ga K "want_ranked"))
  d_want_ranked : ∃ fd, FunD K d_want_ranked.name d_want_ranked.qual d_want_ranked.params d_want_ranked.body d_want_ranked.scope (d_want_ranked.dvs K) (d_want_ranked.kws K) (He.fAd K d_want_ranked.at_) fd
  n_read_word : mg "read_word" = some (.ref (He.ga K "read_word"))
  d_read_word : ∃ fd, FunD K d_read_word.name d_read_word.qual d_read_word.params d_read_word.body d_read_word.scope (d_read_word.dvs K) (d_read_word.kws K) (He.fAd K d_read_word.at_) fd
  n_word_text : mg "word_text" = some (.ref (He.ga K "word_text"))
  d_word_text : ∃ fd, FunD K d_word_text.name d_word_text.qual d_word_text.params d_word_text.body d_word_text.scope (d_word_text.dvs K) (d_word_text.kws K) (He.fAd K d_word_text.at_) fd
  n__law_heard : mg "_law_heard" = some (.ref (He.ga K "_law_heard"))
  d__law_heard : ∃ fd, FunD K d__law_heard.name d__law_heard.qual d__law_heard.params d__law_heard.body d__law_heard.scope (d__law_heard.dvs K) (d__law_heard.kws K) (He.fAd K d__law_heard.at_) fd
  n__law_right : mg "_law_right" = some (.ref (He.ga K "_law_right"))
  d__law_right : ∃ fd, FunD K d__law_right.name d__law_right.qual d__law_right.params d__law_right.body d__law_right.scope (d__law_right.dvs K) (d__law_right.kws K) (He.fAd K d__law_right.at_) fd
  n_law : mg "law" = some (.ref (He.ga K "law"))
  d_law : ∃ fd, FunD K d_law.name d_law.qual d_law.params d_law.body d_law.scope (d_law.dvs K) (d_law.kws K) (He.fAd K d_law.at_) fd
section
variable {P : Program} {w : World} {K : PySem.W.Frag} {mg : Str → Option Value} {base : Heap}
theorem cm_BadText (B : Fx K mg) (nm : Str) (b : Bool) (cls : Value) (h : cmBadText nm = some b) (hm : mg nm = some cls) : PySem.W.exmOne K cls (.ref (He.ga K "BadText")) = some b := by
  unfold cmBadText at h
  split at h
  · rename_i e
    cases h
    rw [e, B.g_BadText] at hm
    cases hm
    exact B.m_BadText
  · cases h
theorem sc_is_integer : FnScope ["value"] ["value"] d_is_integer.scope := ⟨rfl, rfl, rfl, by decide +kernel, rfl, by decide +kernel, by decide +kernel⟩
theorem ok_is_integer (B : Fx K mg)  : Cal P w K mg base 1 d_is_integer ["value"] F_is_integer :=
  cal_of (N := ["value"]) (k := 0) (lk := []) B.n_is_integer B.d_is_integer rfl sc_is_integer fun cdv A outer s H E r hg =>
    have SC := sc_is_integer
    have tk := takes_of (X := cxOf (CX P w) P w K mg base ["value"] d_is_integer.qual d_is_integer.scope (He.fAd K d_is_integer.at_) cdv A outer s H E) rfl rfl rfl rfl
    have ps := passes_of (X := cxOf (CX P w) P w K mg base ["value"] d_is_integer.qual d_is_integer.scope (He.fAd K d_is_integer.at_) cdv A outer s H E) rfl
    (by exact (sds_one (sd_ret (pm_pp (pp_and (pp_isi .int B.f_isinstance B.f_int (pp_name 0)) (pp_one (pp_not (pp_isi .bool B.f_isinstance B.f_bool (pp_name 0)))))))))
theorem sc_is_reduced : FnScope ["row", "one", "other"] ["row"] d_is_reduced.scope := ⟨rfl, rfl, rfl, by decide +kernel, rfl, by decide +kernel, by decide +kernel⟩
theorem ok_is_reduced (B : Fx K mg)  : Cal P w K mg base 1 d_is_reduced ["row"] F_is_reduced :=
  cal_of (N := ["row", "one", "other"]) (k := 0) (lk := []) B.n_is_reduced B.d_is_reduced rfl sc_is_reduced fun cdv A outer s H E r hg =>
    have SC := sc_is_reduced
    have tk := takes_of (X := cxOf (CX P w) P w K mg base ["row", "one", "other"] d_is_reduced.qual d_is_reduced.scope (He.fAd K d_is_reduced.at_) cdv A outer s H E) rfl rfl rfl rfl
    have ps := passes_of (X := cxOf (CX P w) P w K mg base ["row", "one", "other"] d_is_reduced.qual d_is_reduced.scope (He.fAd K d_is_reduced.at_) cdv A outer s H E) rfl
    (by exact (sds_one (sd_ret (pm_pp (pp_callB (c_all rfl) B.f_all (aa_cons (pp_lc rfl SC.nd (ip_zip B.f_zip (aa_cons (pp_name 0) (aa_cons (pp_slice (pp_name 0) (op_some pp_int) op_none) aa_nil))) (blkOk_by (own := [("one", 1), ("other", 2)]) (by first | rfl | with_unfolding_all rfl)) (fun _ _ _ _ _ => (gp_tup rfl (gps_cons (gp_name 1 SC.nd) (gps_cons (gp_name 2 SC.nd) gps_nil)))) (fun _ _ _ _ _ => tps_nil) (fun _ _ _ _ _ => (pp_cmp (o_ne (Room.u64 r)) (pp_bin o_add (pp_name 1) (pp_name 2)) pp_int))) aa_nil))))))
theorem sc_word_told : FnScope ["word", "letter"] ["word"] d_word_told.scope := ⟨rfl, rfl, rfl, by decide +kernel, rfl, by decide +kernel, by decide +kernel⟩
theorem ok_word_told (B : Fx K mg)  : Cal P w K mg base 1 d_word_told ["word"] F_word_told :=
  cal_of (N := ["word", "letter"]) (k := 0) (lk := []) B.n_word_told B.d_word_told rfl sc_word_told fun cdv A outer s H E r hg =>
    have SC := sc_word_told
    have tk := takes_of (X := cxOf (CX P w) P w K mg base ["word", "letter"] d_word_told.qual d_word_told.scope (He.fAd K d_word_told.at_) cdv A outer s H E) rfl rfl rfl rfl
    have ps := passes_of (X := cxOf (CX P w) P w K mg base ["word", "letter"] d_word_told.qual d_word_told.scope (He.fAd K d_word_told.at_) cdv A outer s H E) rfl
    (by exact (sds_one (sd_ret (pm_pp (pp_if (tp_cmp (o_eq (Room.u64 r)) (pp_name 0) (pp_tup aa_nil)) (pp_glob (d := .str "1") (v := .str "1") B.c_EMPTY.choose_spec ⟨_, rfl⟩ fun _ _ => rfl) (pp_smeth s_join F.slot_str_join pp_str (aa_cons (pp_lc rfl SC.nd (ip_seq (pp_name 0)) (blkOk_by (own := [("letter", 1)]) (by first | rfl | with_unfolding_all rfl)) (fun _ _ _ _ _ => (gp_name 1 SC.nd)) (fun _ _ _ _ _ => tps_nil) (fun _ _ _ _ _ => (pp_ix (pp_glob (d := .str "abcdABCD") (v := .str "abcdABCD") B.c_SIGNS.choose_spec ⟨_, rfl⟩ fun _ _ => rfl) (pp_tindex [1, 2, 3, 4, -1, -2, -3, -4] B.g_LETTERS B.t_LETTERS.2 B.t_LETTERS.1 (pp_name 1))))) aa_nil) rfl))))))
theorem sc__law_pot : FnScope ["script", "k", "cell"] ["script", "k"] d__law_pot.scope := ⟨rfl, rfl, rfl, by decide +kernel, rfl, by decide +kernel, by decide +kernel⟩
theorem ok__law_pot (B : Fx K mg)  : Cal P w K mg base 1 d__law_pot ["script", "k"] F__law_pot :=
  cal_of (N := ["script", "k", "cell"]) (k := 0) (lk := []) B.n__law_pot B.d__law_pot rfl sc__law_pot fun cdv A outer s H E r hg =>
    have SC := sc__law_pot
    have tk := takes_of (X := cxOf (CX P w) P w K mg base ["script", "k", "cell"] d__law_pot.qual d__law_pot.scope (He.fAd K d__law_pot.at_) cdv A outer s H E) rfl rfl rfl rfl
    have ps := passes_of (X := cxOf (CX P w) P w K mg base ["script", "k", "cell"] d__law_pot.qual d__law_pot.scope (He.fAd K d__law_pot.at_) cdv A outer s H E) rfl
    (by exact (sds_cons (sd_set 2 (pm_pp (pp_bin o_add (pp_bin o_mul pp_int (pp_name 1)) pp_int)) SC.nd) (sds_cons (sd_if (tm_tp (tp_cmp o_lt (pp_name 1) (pp_callB c_len B.f_len (aa_cons (pp_name 0) aa_nil)))) (sds_one (sd_set 2 (pm_pp (pp_callB c_abs B.f_abs (aa_cons (pp_ix (pp_name 0) (pp_name 1)) aa_nil))) SC.nd)) sds_nil) (sds_one (sd_ret (pm_pp (pp_lst (aa_cons (pp_callB (c_max2 rfl) B.f_max (aa_cons pp_int (aa_cons (pp_bin o_sub (pp_name 2) (pp_bin o_pow pp_int pp_int)) aa_nil))) (aa_cons (pp_bin o_add (pp_bin o_mod (pp_callT c_int B.f_int (aa_cons (pp_bin o_add (pp_bin o_add (pp_bin o_mul (pp_bin o_mod (pp_callT c_int B.f_int (aa_cons (pp_name 2) aa_nil)) pp_int) pp_int) (pp_bin o_mul pp_int (pp_name 1))) pp_int) aa_nil)) pp_int) pp_int) aa_nil)))))))))
theorem sc__law_draw : FnScope ["pot", "many", "digit"] ["pot", "many"] d__law_draw.scope := ⟨rfl, rfl, rfl, by decide +kernel, rfl, by decide +kernel, by decide +kernel⟩
theorem ok__law_draw (B : Fx K mg)  : Cal P w K mg base 1 d__law_draw ["pot", "many"] F__law_draw :=
  cal_of (N := ["pot", "many", "digit"]) (k := 0) (lk := [0]) B.n__law_draw B.d__law_draw rfl sc__law_draw fun cdv A outer s H E r hg =>
    have SC := sc__law_draw
    have tk := takes_of (X := cxOf (CX P w) P w K mg base ["pot", "many", "digit"] d__law_draw.qual d__law_draw.scope (He.fAd K d__law_draw.at_) cdv A outer s H E) rfl rfl rfl rfl
    have ps := passes_of (X := cxOf (CX P w) P w K mg base ["pot", "many", "digit"] d__law_draw.qual d__law_draw.scope (He.fAd K d__law_draw.at_) cdv A outer s H E) rfl
    (by exact (sds_cons (sd_if (tm_tp (tp_cmp o_gt (pp_ix (pp_name 0) pp_int) pp_int)) (sds_cons (sd_asg (pm_pp (pp_callB c_divmod B.f_divmod (aa_cons (pp_ix (pp_name 0) pp_int) (aa_cons (pp_name 1) aa_nil)))) (ge_tup rfl (ges_cons (ge_sub 0 pp_int) (ges_cons (ge_gp (vs := [2]) (gp_name 2 SC.nd)) ges_nil)))) (sds_one (sd_ret (pm_pp (pp_name 2))))) sds_nil) (sds_cons (sd_asg (pm_pp (pp_bin o_mod (pp_callT c_int B.f_int (aa_cons (pp_bin o_add (pp_bin o_mul (pp_ix (pp_name 0) pp_int) pp_int) pp_int) aa_nil)) pp_int)) (ge_sub 0 pp_int)) (sds_one (sd_ret (pm_pp (pp_bin o_mod (pp_callT c_int B.f_int (aa_cons (pp_bin o_fdiv (pp_bin o_mod (pp_callT c_int B.f_int (aa_cons (pp_bin o_mul (pp_ix (pp_name 0) pp_int) (pp_ix (pp_name 0) pp_int)) aa_nil)) pp_int) pp_int) aa_nil)) (pp_name 1))))))))
theorem sc__law_letters : FnScope ["rank", "found", "letter"] ["rank"] d__law_letters.scope := ⟨rfl, rfl, rfl, by decide +kernel, rfl, by decide +kernel, by decide +kernel⟩
theorem ok__law_letters (B : Fx K mg)  : Cal P w K mg base 1 d__law_letters ["rank"] F__law_letters :=
  cal_of (N := ["rank", "found", "letter"]) (k := 0) (lk := []) B.n__law_letters B.d__law_letters rfl sc__law_letters fun cdv A outer s H E r hg =>
    have SC := sc__law_letters
    have tk := takes_of (X := cxOf (CX P w) P w K mg base ["rank", "found", "letter"] d__law_letters.qual d__law_letters.scope (He.fAd K d__law_letters.at_) cdv A outer s H E) rfl rfl rfl rfl
    have ps := passes_of (X := cxOf (CX P w) P w K mg base ["rank", "found", "letter"] d__law_letters.qual d__law_letters.scope (He.fAd K d__law_letters.at_) cdv A outer s H E) rfl
    (by exact (sds_cons (sd_setO 1 (pm_pp (pp_lst aa_nil)) SC.nd) (sds_cons (sd_for (vs := [2]) ps rfl (ip_range2 B.f_range (aa_cons pp_int (aa_cons (pp_bin o_add (pp_name 0) pp_int) aa_nil))) (gp_name 2 SC.nd) (sds_one (sd_expr (pm_mt 1 l_extend F.slot_list_extend rfl (pm_pp (pp_lst (aa_cons (pp_name 2) (aa_cons (pp_bin o_sub pp_int (pp_name 2)) aa_nil)))))))) (sds_one (sd_retMv 1)))))
theorem sc__law_text : FnScope ["word", "letter"] ["word"] d__law_text.scope := ⟨rfl, rfl, rfl, by decide +kernel, rfl, by decide +kernel, by decide +kernel⟩
theorem ok__law_text (B : Fx K mg)  : Cal P w K mg base 1 d__law_text ["word"] F__law_text :=
  cal_of (N := ["word", "letter"]) (k := 0) (lk := []) B.n__law_text B.d__law_text rfl sc__law_text fun cdv A outer s H E r hg =>
    have SC := sc__law_text
    have tk := takes_of (X := cxOf (CX P w) P w K mg base ["word", "letter"] d__law_text.qual d__law_text.scope (He.fAd K d__law_text.at_) cdv A outer s H E) rfl rfl rfl rfl
    have ps := passes_of (X := cxOf (CX P w) P w K mg base ["word", "letter"] d__law_text.qual d__law_text.scope (He.fAd K d__law_text.at_) cdv A outer s H E) rfl
    (by exact (sds_one (sd_ret (pm_pp (pp_if (tp_cmp (o_eq (Room.u64 r)) (pp_name 0) (pp_tup aa_nil)) pp_str (pp_smeth s_join F.slot_str_join pp_str (aa_cons (pp_lc rfl SC.nd (ip_seq (pp_name 0)) (blkOk_by (own := [("letter", 1)]) (by first | rfl | with_unfolding_all rfl)) (fun _ _ _ _ _ => (gp_name 1 SC.nd)) (fun _ _ _ _ _ => tps_nil) (fun _ _ _ _ _ => (pp_if (tp_cmp o_gt (pp_name 1) pp_int) (pp_ix pp_str (pp_bin o_sub (pp_name 1) pp_int)) (pp_ix pp_str (pp_bin o_sub (pp_bin o_sub pp_int (pp_name 1)) pp_int))))) aa_nil) rfl))))))
theorem sc__law_read : FnScope ["rank", "text", "found", "sign", "letter"] ["rank", "text"] d__law_read.scope := ⟨rfl, rfl, rfl, by decide +kernel, rfl, by decide +kernel, by decide +kernel⟩
theorem ok__law_read (B : Fx K mg)  : Cal P w K mg base 1 d__law_read ["rank", "text"] F__law_read :=
  cal_of (N := ["rank", "text", "found", "sign", "letter"]) (k := 0) (lk := []) B.n__law_read B.d__law_read rfl sc__law_read fun cdv A outer s H E r hg =>
    have SC := sc__law_read
    have tk := takes_of (X := cxOf (CX P w) P w K mg base ["rank", "text", "found", "sign", "letter"] d__law_read.qual d__law_read.scope (He.fAd K d__law_read.at_) cdv A outer s H E) rfl rfl rfl rfl
    have ps := passes_of (X := cxOf (CX P w) P w K mg base ["rank", "text", "found", "sign", "letter"] d__law_read.qual d__law_read.scope (He.fAd K d__law_read.at_) cdv A outer s H E) rfl
    (by exact (sds_cons (sd_if (tm_tp (tp_cmp (o_eq (Room.u64 r)) (pp_name 1) pp_str)) (sds_one (sd_ret (pm_pp (pp_tup aa_nil)))) sds_nil) (sds_cons (sd_setO 2 (pm_pp (pp_lst aa_nil)) SC.nd) (sds_cons (sd_for (vs := [3]) ps rfl (ip_seq (pp_name 1)) (gp_name 3 SC.nd) (sds_cons (sd_if (tm_tp (tp_cmp (o_notIn (Room.u65 r)) (pp_name 3) (pp_bin o_add (pp_slice pp_str op_none (op_some (pp_name 0))) (pp_slice pp_str op_none (op_some (pp_name 0)))))) (sds_one (sd_ret (pm_pp pp_non))) sds_nil) (sds_cons (sd_set 4 (pm_pp (pp_if (tp_cmp (o_in (Room.u65 r)) (pp_name 3) pp_str) (pp_bin o_add (pp_smeth s_index F.slot_str_index pp_str (aa_cons (pp_name 3) aa_nil) rfl) pp_int) (pp_bin o_sub (pp_bin o_sub pp_int (pp_smeth s_index F.slot_str_index pp_str (aa_cons (pp_name 3) aa_nil) rfl)) pp_int))) SC.nd) (sds_cons (sd_if (tm_tp (WP.tp (wp_and (tp_cmp (o_ne (Room.u64 r)) (pp_name 2) (pp_lst aa_nil)) (wp_and1 (tp_cmp (o_eq (Room.u64 r)) (pp_bin o_add (pp_ix (pp_name 2) (pp_un o_neg pp_int)) (pp_name 4)) pp_int))))) (sds_one (sd_ret (pm_pp pp_non))) sds_nil) (sds_one (sd_expr (pm_mt 2 l_append F.slot_list_append rfl (pm_pp (pp_name 4))))))))) (sds_one (sd_ret (pm_pp (pp_if (tp_chain o_lt o_lt pp_int (pp_callB c_len B.f_len (aa_cons (pp_name 2) aa_nil)) pp_int) (pp_callT c_tuple B.f_tuple (aa_cons (pp_name 2) aa_nil)) pp_non))))))))
theorem sc_is_letter : FnScope ["rank", "value"] ["rank", "value"] d_is_letter.scope := ⟨rfl, rfl, rfl, by decide +kernel, rfl, by decide +kernel, by decide +kernel⟩
theorem ok_is_letter (B : Fx K mg) (h_is_integer : Cal P w K mg base 1 d_is_integer ["value"] F_is_integer) : Cal P w K mg base 2 d_is_letter ["rank", "value"] F_is_letter :=
  cal_of (N := ["rank", "value"]) (k := 1) (lk := []) B.n_is_letter B.d_is_letter rfl sc_is_letter fun cdv A outer s H E r hg =>
    have SC := sc_is_letter
    have tk := takes_of (X := cxOf (CX P w) P w K mg base ["rank", "value"] d_is_letter.qual d_is_letter.scope (He.fAd K d_is_letter.at_) cdv A outer s H E) rfl rfl rfl rfl
    have ps := passes_of (X := cxOf (CX P w) P w K mg base ["rank", "value"] d_is_letter.qual d_is_letter.scope (He.fAd K d_is_letter.at_) cdv A outer s H E) rfl
    (by exact (sds_one (sd_ret (pm_pp (pp_and (pp_fd (h_is_integer.mono (by decide)) rfl bn_is_integer r hg (aa_cons (pp_name 1) aa_nil) (hfl := (aCons_len aNil_len))) (pp_one (pp_chain o_le o_le pp_int (pp_callB c_abs B.f_abs (aa_cons (pp_name 1) aa_nil)) (pp_name 0))))))))
theorem sc_want_rank : FnScope ["value"] ["value"] d_want_rank.scope := ⟨rfl, rfl, rfl, by decide +kernel, rfl, by decide +kernel, by decide +kernel⟩
theorem ok_want_rank (B : Fx K mg) (h_is_integer : Cal P w K mg base 1 d_is_integer ["value"] F_is_integer) : Cal P w K mg base 2 d_want_rank ["value"] F_want_rank :=
  cal_of (N := ["value"]) (k := 1) (lk := []) B.n_want_rank B.d_want_rank rfl sc_want_rank fun cdv A outer s H E r hg =>
    have SC := sc_want_rank
    have tk := takes_of (X := cxOf (CX P w) P w K mg base ["value"] d_want_rank.qual d_want_rank.scope (He.fAd K d_want_rank.at_) cdv A outer s H E) rfl rfl rfl rfl
    have ps := passes_of (X := cxOf (CX P w) P w K mg base ["value"] d_want_rank.qual d_want_rank.scope (He.fAd K d_want_rank.at_) cdv A outer s H E) rfl
    (by exact (sds_one (sd_if (tm_tp (WP.tp (wp_or (tp_not (tp_val (pp_fd (h_is_integer.mono (by decide)) rfl bn_is_integer r hg (aa_cons (pp_name 0) aa_nil) (hfl := (aCons_len aNil_len))))) (wp_or1 (tp_not (tp_chain o_le o_le pp_int (pp_name 0) (pp_glob (d := .int 4) (v := .int 4) B.c_MOST_RANK.choose_spec ⟨_, rfl⟩ fun _ _ => rfl))))))) (sds_one sd_never) sds_nil)))
theorem sc__law_pick : FnScope ["pot", "some"] ["pot", "some"] d__law_pick.scope := ⟨rfl, rfl, rfl, by decide +kernel, rfl, by decide +kernel, by decide +kernel⟩
theorem ok__law_pick (B : Fx K mg) (h__law_draw : Cal P w K mg base 1 d__law_draw ["pot", "many"] F__law_draw) : Cal P w K mg base 2 d__law_pick ["pot", "some"] F__law_pick :=
  cal_of (N := ["pot", "some"]) (k := 1) (lk := [0]) B.n__law_pick B.d__law_pick rfl sc__law_pick fun cdv A outer s H E r hg =>
    have SC := sc__law_pick
    have tk := takes_of (X := cxOf (CX P w) P w K mg base ["pot", "some"] d__law_pick.qual d__law_pick.scope (He.fAd K d__law_pick.at_) cdv A outer s H E) rfl rfl rfl rfl
    have ps := passes_of (X := cxOf (CX P w) P w K mg base ["pot", "some"] d__law_pick.qual d__law_pick.scope (He.fAd K d__law_pick.at_) cdv A outer s H E) rfl
    (by exact (sds_one (sd_ret (pm_ix (pm_pp (pp_name 1)) (pm_fd (h__law_draw.mono (by decide)) rfl bn__law_draw r hg tk (ar_bw 0 (ar_fz (pm_pp (pp_callB c_len B.f_len (aa_cons (pp_name 1) aa_nil))) ar_nil)))))))
theorem sc_is_row : FnScope ["rank", "value", "one"] ["rank", "value"] d_is_row.scope := ⟨rfl, rfl, rfl, by decide +kernel, rfl, by decide +kernel, by decide +kernel⟩
theorem ok_is_row (B : Fx K mg) (h_is_letter : Cal P w K mg base 2 d_is_letter ["rank", "value"] F_is_letter) : Cal P w K mg base 3 d_is_row ["rank", "value"] F_is_row :=
  cal_of (N := ["rank", "value", "one"]) (k := 2) (lk := []) B.n_is_row B.d_is_row rfl sc_is_row fun cdv A outer s H E r hg =>
    have SC := sc_is_row
    have tk := takes_of (X := cxOf (CX P w) P w K mg base ["rank", "value", "one"] d_is_row.qual d_is_row.scope (He.fAd K d_is_row.at_) cdv A outer s H E) rfl rfl rfl rfl
    have ps := passes_of (X := cxOf (CX P w) P w K mg base ["rank", "value", "one"] d_is_row.qual d_is_row.scope (He.fAd K d_is_row.at_) cdv A outer s H E) rfl
    (by exact (sds_one (sd_ret (pm_pp (pp_and (pp_isi .tuple B.f_isinstance B.f_tuple (pp_name 1)) (pp_and (pp_cmp o_le (pp_callB c_len B.f_len (aa_cons (pp_name 1) aa_nil)) (pp_glob (d := .int 240) (v := .int 240) B.c_MOST_ROW.choose_spec ⟨_, rfl⟩ fun _ _ => rfl)) (pp_one (pp_callB (c_all rfl) B.f_all (aa_cons (pp_lc rfl SC.nd (ip_seq (pp_name 1)) (blkOk_by (own := [("one", 2)]) (by first | rfl | with_unfolding_all rfl)) (fun _ _ _ _ _ => (gp_name 2 SC.nd)) (fun _ _ _ _ _ => tps_nil) (fun _ _ _ _ _ => (pp_fd (h_is_letter.mono (by decide)) rfl bn_is_letter r hg (aa_cons (pp_name 0) (aa_cons (pp_name 2) aa_nil)) (hfl := (aCons_len (aCons_len aNil_len)))))) aa_nil)))))))))
theorem sc__law_word : FnScope ["pot", "rank", "many", "found", "turn", "some", "letter"] ["pot", "rank", "many"] d__law_word.scope := ⟨rfl, rfl, rfl, by decide +kernel, rfl, by decide +kernel, by decide +kernel⟩
theorem ok__law_word (B : Fx K mg) (h__law_letters : Cal P w K mg base 1 d__law_letters ["rank"] F__law_letters) (h__law_pick : Cal P w K mg base 2 d__law_pick ["pot", "some"] F__law_pick) : Cal P w K mg base 3 d__law_word ["pot", "rank", "many"] F__law_word :=
  cal_of (N := ["pot", "rank", "many", "found", "turn", "some", "letter"]) (k := 2) (lk := [0]) B.n__law_word B.d__law_word rfl sc__law_word fun cdv A outer s H E r hg =>
    have SC := sc__law_word
    have tk := takes_of (X := cxOf (CX P w) P w K mg base ["pot", "rank", "many", "found", "turn", "some", "letter"] d__law_word.qual d__law_word.scope (He.fAd K d__law_word.at_) cdv A outer s H E) rfl rfl rfl rfl
    have ps := passes_of (X := cxOf (CX P w) P w K mg base ["pot", "rank", "many", "found", "turn", "some", "letter"] d__law_word.qual d__law_word.scope (He.fAd K d__law_word.at_) cdv A outer s H E) rfl
    (by exact (sds_cons (sd_set 3 (pm_pp (pp_tup aa_nil)) SC.nd) (sds_cons (sd_for (vs := [4]) ps rfl (ip_range1 B.f_range (aa_cons (pp_name 2) aa_nil)) (gp_name 4 SC.nd) (sds_cons (sd_setLc 5 rfl SC.nd (by first | exact sw_true rfl rfl rfl rfl | with_unfolding_all rfl) (ip_seq (pp_fd (h__law_letters.mono (by decide)) rfl bn__law_letters r hg (aa_cons (pp_name 1) aa_nil) (hfl := (aCons_len aNil_len)))) (blkOk_by (own := [("letter", 6)]) (by first | rfl | with_unfolding_all rfl)) (fun _ _ _ _ _ => (gp_name 6 SC.nd)) (fun _ _ _ _ _ => (tps_one (WP.tp (wp_or (tp_cmp (o_eq (Room.u64 r)) (pp_name 3) (pp_tup aa_nil)) (wp_or1 (tp_cmp (o_ne (Room.u64 r)) (pp_name 6) (pp_bin o_sub pp_int (pp_ix (pp_name 3) (pp_un o_neg pp_int))))))))) (fun _ _ _ _ _ => (pp_name 6))) (sds_one (sd_set 3 (pm_bin o_add (pm_pp (pp_name 3)) (pm_tup (am_cons (pm_fd (h__law_pick.mono (by decide)) rfl bn__law_pick r hg tk (ar_bw 0 (ar_fz (pm_pp (pp_name 5)) ar_nil))) am_nil))) SC.nd)))) (sds_one (sd_ret (pm_pp (pp_name 3)))))))
theorem sc__law_bent : FnScope ["pot", "text", "at", "sign"] ["pot", "text"] d__law_bent.scope := ⟨rfl, rfl, rfl, by decide +kernel, rfl, by decide +kernel, by decide +kernel⟩
theorem ok__law_bent (B : Fx K mg) (h__law_draw : Cal P w K mg base 1 d__law_draw ["pot", "many"] F__law_draw) (h__law_pick : Cal P w K mg base 2 d__law_pick ["pot", "some"] F__law_pick) : Cal P w K mg base 3 d__law_bent ["pot", "text"] F__law_bent :=
  cal_of (N := ["pot", "text", "at", "sign"]) (k := 2) (lk := [0]) B.n__law_bent B.d__law_bent rfl sc__law_bent fun cdv A outer s H E r hg =>
    have SC := sc__law_bent
    have tk := takes_of (X := cxOf (CX P w) P w K mg base ["pot", "text", "at", "sign"] d__law_bent.qual d__law_bent.scope (He.fAd K d__law_bent.at_) cdv A outer s H E) rfl rfl rfl rfl
    have ps := passes_of (X := cxOf (CX P w) P w K mg base ["pot", "text", "at", "sign"] d__law_bent.qual d__law_bent.scope (He.fAd K d__law_bent.at_) cdv A outer s H E) rfl
    (by exact (sds_cons (sd_set 2 (pm_fd (h__law_draw.mono (by decide)) rfl bn__law_draw r hg tk (ar_bw 0 (ar_fz (pm_pp (pp_bin o_add (pp_callB c_len B.f_len (aa_cons (pp_name 1) aa_nil)) pp_int)) ar_nil))) SC.nd) (sds_cons (sd_set 3 (pm_fd (h__law_pick.mono (by decide)) rfl bn__law_pick r hg tk (ar_bw 0 (ar_fz (pm_pp (pp_lst (aa_cons pp_str (aa_cons pp_str (aa_cons pp_str (aa_cons pp_str (aa_cons pp_str (aa_cons pp_str (aa_cons pp_str (aa_cons pp_str (aa_cons pp_str (aa_cons pp_str (aa_cons pp_str (aa_cons pp_str (aa_cons pp_str aa_nil))))))))))))))) ar_nil))) SC.nd) (sds_one (sd_ret (pm_fd (h__law_pick.mono (by decide)) rfl bn__law_pick r hg tk (ar_bw 0 (ar_fz (pm_pp (pp_lst (aa_cons (pp_bin o_add (pp_bin o_add (pp_slice (pp_name 1) op_none (op_some (pp_name 2))) (pp_name 3)) (pp_slice (pp_name 1) (op_some (pp_name 2)) op_none)) (aa_cons (pp_bin o_add (pp_bin o_add (pp_slice (pp_name 1) op_none (op_some (pp_name 2))) (pp_name 3)) (pp_slice (pp_name 1) (op_some (pp_bin o_add (pp_name 2) pp_int)) op_none)) (aa_cons (pp_bin o_add (pp_slice (pp_name 1) op_none (op_some (pp_name 2))) (pp_slice (pp_name 1) (op_some (pp_bin o_add (pp_name 2) pp_int)) op_none)) (aa_cons (pp_rev (pp_name 1)) (aa_cons (pp_bin o_add (pp_name 1) (pp_name 1)) aa_nil))))))) ar_nil))))))))
theorem sc_is_word : FnScope ["rank", "value"] ["rank", "value"] d_is_word.scope := ⟨rfl, rfl, rfl, by decide +kernel, rfl, by decide +kernel, by decide +kernel⟩
theorem ok_is_word (B : Fx K mg) (h_is_reduced : Cal P w K mg base 1 d_is_reduced ["row"] F_is_reduced) (h_is_row : Cal P w K mg base 3 d_is_row ["rank", "value"] F_is_row) : Cal P w K mg base 4 d_is_word ["rank", "value"] F_is_word :=
  cal_of (N := ["rank", "value"]) (k := 3) (lk := []) B.n_is_word B.d_is_word rfl sc_is_word fun cdv A outer s H E r hg =>
    have SC := sc_is_word
    have tk := takes_of (X := cxOf (CX P w) P w K mg base ["rank", "value"] d_is_word.qual d_is_word.scope (He.fAd K d_is_word.at_) cdv A outer s H E) rfl rfl rfl rfl
    have ps := passes_of (X := cxOf (CX P w) P w K mg base ["rank", "value"] d_is_word.qual d_is_word.scope (He.fAd K d_is_word.at_) cdv A outer s H E) rfl
    (by exact (sds_one (sd_ret (pm_pp (pp_and (pp_fd (h_is_row.mono (by decide)) rfl bn_is_row r hg (aa_cons (pp_name 0) (aa_cons (pp_name 1) aa_nil)) (hfl := (aCons_len (aCons_len aNil_len)))) (pp_and (pp_cmp o_le (pp_callB c_len B.f_len (aa_cons (pp_name 1) aa_nil)) (pp_glob (d := .int 60) (v := .int 60) B.c_MOST_WORD.choose_spec ⟨_, rfl⟩ fun _ _ => rfl)) (pp_one (pp_fd (h_is_reduced.mono (by decide)) rfl bn_is_reduced r hg (aa_cons (pp_name 1) aa_nil) (hfl := (aCons_len aNil_len))))))))))
theorem sc_want_word : FnScope ["rank", "value"] ["rank", "value"] d_want_word.scope := ⟨rfl, rfl, rfl, by decide +kernel, rfl, by decide +kernel, by decide +kernel⟩
theorem ok_want_word (B : Fx K mg) (h_is_word : Cal P w K mg base 4 d_is_word ["rank", "value"] F_is_word) : Cal P w K mg base 5 d_want_word ["rank", "value"] F_want_word :=
  cal_of (N := ["rank", "value"]) (k := 4) (lk := []) B.n_want_word B.d_want_word rfl sc_want_word fun cdv A outer s H E r hg =>
    have SC := sc_want_word
    have tk := takes_of (X := cxOf (CX P w) P w K mg base ["rank", "value"] d_want_word.qual d_want_word.scope (He.fAd K d_want_word.at_) cdv A outer s H E) rfl rfl rfl rfl
    have ps := passes_of (X := cxOf (CX P w) P w K mg base ["rank", "value"] d_want_word.qual d_want_word.scope (He.fAd K d_want_word.at_) cdv A outer s H E) rfl
    (by exact (sds_one (sd_if (tm_tp (tp_not (tp_val (pp_fd (h_is_word.mono (by decide)) rfl bn_is_word r hg (aa_cons (pp_name 0) (aa_cons (pp_name 1) aa_nil)) (hfl := (aCons_len (aCons_len aNil_len))))))) (sds_one sd_never) sds_nil)))
theorem sc_word_read : FnScope ["rank", "text", "found", "sign"] ["rank", "text"] d_word_read.scope := ⟨rfl, rfl, rfl, by decide +kernel, rfl, by decide +kernel, by decide +kernel⟩
theorem ok_word_read (B : Fx K mg) (h_is_word : Cal P w K mg base 4 d_is_word ["rank", "value"] F_is_word) : Cal P w K mg base 5 d_word_read ["rank", "text"] F_word_read :=
  cal_of (N := ["rank", "text", "found", "sign"]) (k := 4) (lk := []) B.n_word_read B.d_word_read rfl sc_word_read fun cdv A outer s H E r hg =>
    have SC := sc_word_read
    have tk := takes_of (X := cxOf (CX P w) P w K mg base ["rank", "text", "found", "sign"] d_word_read.qual d_word_read.scope (He.fAd K d_word_read.at_) cdv A outer s H E) rfl rfl rfl rfl
    have ps := passes_of (X := cxOf (CX P w) P w K mg base ["rank", "text", "found", "sign"] d_word_read.qual d_word_read.scope (He.fAd K d_word_read.at_) cdv A outer s H E) rfl
    (by exact (sds_cons (sd_if (tm_tp (tp_cmp (o_eq (Room.u64 r)) (pp_name 1) (pp_glob (d := .str "1") (v := .str "1") B.c_EMPTY.choose_spec ⟨_, rfl⟩ fun _ _ => rfl))) (sds_one (sd_ret (pm_pp (pp_tup aa_nil)))) sds_nil) (sds_cons (sd_if (tm_tp (WP.tp (wp_or (tp_cmp (o_eq (Room.u64 r)) (pp_name 1) pp_str) (wp_or1 (tp_not (tp_val (pp_callB (c_all rfl) B.f_all (aa_cons (pp_lc rfl SC.nd (ip_seq (pp_name 1)) (blkOk_by (own := [("sign", 3)]) (by first | rfl | with_unfolding_all rfl)) (fun _ _ _ _ _ => (gp_name 3 SC.nd)) (fun _ _ _ _ _ => tps_nil) (fun _ _ _ _ _ => (pp_cmp (o_in (Room.u65 r)) (pp_name 3) (pp_glob (d := .str "abcdABCD") (v := .str "abcdABCD") B.c_SIGNS.choose_spec ⟨_, rfl⟩ fun _ _ => rfl)))) aa_nil)))))))) (sds_one (sd_ret (pm_pp pp_non))) sds_nil) (sds_cons (sd_set 2 (pm_pp (pp_callT c_tuple B.f_tuple (aa_cons (pp_lc rfl SC.nd (ip_seq (pp_name 1)) (blkOk_by (own := [("sign", 3)]) (by first | rfl | with_unfolding_all rfl)) (fun _ _ _ _ _ => (gp_name 3 SC.nd)) (fun _ _ _ _ _ => tps_nil) (fun _ _ _ _ _ => (pp_ix (pp_glob (d := .tup (dints [1, 2, 3, 4, -1, -2, -3, -4])) (v := .ref (He.ga K "LETTERS")) B.g_LETTERS rfl fun W H => ⟨_, _, rfl, B.t_LETTERS.1 H, rp_ints _⟩) (pp_smeth s_index F.slot_str_index (pp_glob (d := .str "abcdABCD") (v := .str "abcdABCD") B.c_SIGNS.choose_spec ⟨_, rfl⟩ fun _ _ => rfl) (aa_cons (pp_name 3) aa_nil) rfl)))) aa_nil))) SC.nd) (sds_one (sd_ret (pm_pp (pp_if (tp_val (pp_fd (h_is_word.mono (by decide)) rfl bn_is_word r hg (aa_cons (pp_name 0) (aa_cons (pp_name 2) aa_nil)) (hfl := (aCons_len (aCons_len aNil_len))))) (pp_name 2) pp_non))))))))
theorem sc_want_ranked : FnScope ["rank", "word"] ["rank", "word"] d_want_ranked.scope := ⟨rfl, rfl, rfl, by decide +kernel, rfl, by decide +kernel, by decide +kernel⟩
theorem ok_want_ranked (B : Fx K mg) (h_want_rank : Cal P w K mg base 2 d_want_rank ["value"] F_want_rank) (h_want_word : Cal P w K mg base 5 d_want_word ["rank", "value"] F_want_word) : Cal P w K mg base 6 d_want_ranked ["rank", "word"] F_want_ranked :=
  cal_of (N := ["rank", "word"]) (k := 5) (lk := []) B.n_want_ranked B.d_want_ranked rfl sc_want_ranked fun cdv A outer s H E r hg =>
    have SC := sc_want_ranked
    have tk := takes_of (X := cxOf (CX P w) P w K mg base ["rank", "word"] d_want_ranked.qual d_want_ranked.scope (He.fAd K d_want_ranked.at_) cdv A outer s H E) rfl rfl rfl rfl
    have ps := passes_of (X := cxOf (CX P w) P w K mg base ["rank", "word"] d_want_ranked.qual d_want_ranked.scope (He.fAd K d_want_ranked.at_) cdv A outer s H E) rfl
    (by exact (sds_cons (sd_expr (pm_pp (pp_fd (h_want_rank.mono (by decide)) rfl bn_want_rank r hg (aa_cons (pp_name 0) aa_nil) (hfl := (aCons_len aNil_len))))) (sds_one (sd_expr (pm_pp (pp_fd (h_want_word.mono (by decide)) rfl bn_want_word r hg (aa_cons (pp_name 0) (aa_cons (pp_name 1) aa_nil)) (hfl := (aCons_len (aCons_len aNil_len)))))))))
theorem sc_read_word : FnScope ["rank", "text", "found"] ["rank", "text"] d_read_word.scope := ⟨rfl, rfl, rfl, by decide +kernel, rfl, by decide +kernel, by decide +kernel⟩
theorem ok_read_word (B : Fx K mg) (h_want_rank : Cal P w K mg base 2 d_want_rank ["value"] F_want_rank) (h_word_read : Cal P w K mg base 5 d_word_read ["rank", "text"] F_word_read) : Cal P w K mg base 6 d_read_word ["rank", "text"] F_read_word :=
  cal_of (N := ["rank", "text", "found"]) (k := 5) (lk := []) B.n_read_word B.d_read_word rfl sc_read_word fun cdv A outer s H E r hg =>
    have SC := sc_read_word
    have tk := takes_of (X := cxOf (CX P w) P w K mg base ["rank", "text", "found"] d_read_word.qual d_read_word.scope (He.fAd K d_read_word.at_) cdv A outer s H E) rfl rfl rfl rfl
    have ps := passes_of (X := cxOf (CX P w) P w K mg base ["rank", "text", "found"] d_read_word.qual d_read_word.scope (He.fAd K d_read_word.at_) cdv A outer s H E) rfl
    (by exact (sds_cons (sd_expr (pm_fd (h_want_rank.mono (by decide)) rfl bn_want_rank r hg tk (ar_fz (pm_pp (pp_name 0)) ar_nil))) (sds_cons (sd_set 2 (pm_pp (pp_if (tp_val (pp_isi .str B.f_isinstance B.f_str (pp_name 1))) (pp_fd (h_word_read.mono (by decide)) rfl bn_word_read r hg (aa_cons (pp_name 0) (aa_cons (pp_name 1) aa_nil)) (hfl := (aCons_len (aCons_len aNil_len)))) pp_non)) SC.nd) (sds_cons (sd_if (tm_tp (tp_cmp o_is (pp_name 2) pp_non)) (sds_one (sd_raise rfl B.e_BadText r tk (pm_pp pp_non))) sds_nil) (sds_one (sd_ret (pm_pp (pp_name 2))))))))
theorem sc_word_text : FnScope ["rank", "word"] ["rank", "word"] d_word_text.scope := ⟨rfl, rfl, rfl, by decide +kernel, rfl, by decide +kernel, by decide +kernel⟩
theorem ok_word_text (B : Fx K mg) (h_want_ranked : Cal P w K mg base 6 d_want_ranked ["rank", "word"] F_want_ranked) (h_word_told : Cal P w K mg base 1 d_word_told ["word"] F_word_told) : Cal P w K mg base 7 d_word_text ["rank", "word"] F_word_text :=
  cal_of (N := ["rank", "word"]) (k := 6) (lk := []) B.n_word_text B.d_word_text rfl sc_word_text fun cdv A outer s H E r hg =>
    have SC := sc_word_text
    have tk := takes_of (X := cxOf (CX P w) P w K mg base ["rank", "word"] d_word_text.qual d_word_text.scope (He.fAd K d_word_text.at_) cdv A outer s H E) rfl rfl rfl rfl
    have ps := passes_of (X := cxOf (CX P w) P w K mg base ["rank", "word"] d_word_text.qual d_word_text.scope (He.fAd K d_word_text.at_) cdv A outer s H E) rfl
    (by exact (sds_cons (sd_expr (pm_pp (pp_fd (h_want_ranked.mono (by decide)) rfl bn_want_ranked r hg (aa_cons (pp_name 0) (aa_cons (pp_name 1) aa_nil)) (hfl := (aCons_len (aCons_len aNil_len)))))) (sds_one (sd_ret (pm_pp (pp_fd (h_word_told.mono (by decide)) rfl bn_word_told r hg (aa_cons (pp_name 1) aa_nil) (hfl := (aCons_len aNil_len))))))))
theorem sc__law_heard : FnScope ["rank", "text", "told", "e"] ["rank", "text"] d__law_heard.scope := ⟨rfl, rfl, rfl, by decide +kernel, rfl, by decide +kernel, by decide +kernel⟩
theorem ok__law_heard (B : Fx K mg) (h_read_word : Cal P w K mg base 6 d_read_word ["rank", "text"] F_read_word) : Cal P w K mg base 7 d__law_heard ["rank", "text"] F__law_heard :=
  cal_of (N := ["rank", "text", "told", "e"]) (k := 6) (lk := []) B.n__law_heard B.d__law_heard rfl sc__law_heard fun cdv A outer s H E r hg =>
    have SC := sc__law_heard
    have tk := takes_of (X := cxOf (CX P w) P w K mg base ["rank", "text", "told", "e"] d__law_heard.qual d__law_heard.scope (He.fAd K d__law_heard.at_) cdv A outer s H E) rfl rfl rfl rfl
    have ps := passes_of (X := cxOf (CX P w) P w K mg base ["rank", "text", "told", "e"] d__law_heard.qual d__law_heard.scope (He.fAd K d__law_heard.at_) cdv A outer s H E) rfl
    (by exact (sds_cons (sd_set 2 (pm_pp pp_non) SC.nd) (sds_cons (sd_try (i := 3) rfl rfl SC.nd ⟨rfl, by decide, .inl B.g_BadText⟩ tk (cm_BadText B) (fun W pn xe tk2 ps2 => (sds_one (sd_set 2 (pm_lst (am_cons (pm_pp pp_str) (am_cons (pm_fd (h_read_word.mono (by decide)) rfl bn_read_word r hg tk2 (ar_fz (pm_pp (pp_name 0)) (ar_fz (pm_pp (pp_name 1)) ar_nil))) am_nil))) SC.nd))) (sx_set 2 (px_lst (pxs_cons (px_pp fun _ _ _ => pp_str) (pxs_cons (px_fld B.e_BadText) (pxs_cons (px_isi (dv := .ref (He.ga K "HandfulError")) B.e_BadText B.f_isinstance B.g_HandfulError rfl (fun _ h => h) B.k_BadText_HandfulError) pxs_nil)))) SC.nd)) (sds_one (sd_ret (pm_pp (pp_name 2)))))))
theorem sc__law_right : FnScope ["pot", "rank", "turn", "word", "text", "late", "due", "more", "odd"] ["pot"] d__law_right.scope := ⟨rfl, rfl, rfl, by decide +kernel, rfl, by decide +kernel, by decide +kernel⟩
theorem ok__law_right (B : Fx K mg) (h__law_bent : Cal P w K mg base 3 d__law_bent ["pot", "text"] F__law_bent) (h__law_draw : Cal P w K mg base 1 d__law_draw ["pot", "many"] F__law_draw) (h__law_heard : Cal P w K mg base 7 d__law_heard ["rank", "text"] F__law_heard) (h__law_pick : Cal P w K mg base 2 d__law_pick ["pot", "some"] F__law_pick) (h__law_read : Cal P w K mg base 1 d__law_read ["rank", "text"] F__law_read) (h__law_text : Cal P w K mg base 1 d__law_text ["word"] F__law_text) (h__law_word : Cal P w K mg base 3 d__law_word ["pot", "rank", "many"] F__law_word) (h_read_word : Cal P w K mg base 6 d_read_word ["rank", "text"] F_read_word) (h_word_text : Cal P w K mg base 7 d_word_text ["rank", "word"] F_word_text) : Cal P w K mg base 8 d__law_right ["pot"] F__law_right :=
  cal_of (N := ["pot", "rank", "turn", "word", "text", "late", "due", "more", "odd"]) (k := 7) (lk := [0]) B.n__law_right B.d__law_right rfl sc__law_right fun cdv A outer s H E r hg =>
    have SC := sc__law_right
    have tk := takes_of (X := cxOf (CX P w) P w K mg base ["pot", "rank", "turn", "word", "text", "late", "due", "more", "odd"] d__law_right.qual d__law_right.scope (He.fAd K d__law_right.at_) cdv A outer s H E) rfl rfl rfl rfl
    have ps := passes_of (X := cxOf (CX P w) P w K mg base ["pot", "rank", "turn", "word", "text", "late", "due", "more", "odd"] d__law_right.qual d__law_right.scope (He.fAd K d__law_right.at_) cdv A outer s H E) rfl
    (by exact (sds_cons (sd_set 1 (pm_bin o_add (pm_pp pp_int) (pm_fd (h__law_draw.mono (by decide)) rfl bn__law_draw r hg tk (ar_bw 0 (ar_fz (pm_pp pp_int) ar_nil)))) SC.nd) (sds_cons (sd_for (vs := [2]) ps rfl (ip_range1 B.f_range (aa_cons pp_int aa_nil)) (gp_name 2 SC.nd) (sds_cons (sd_set 3 (pm_fd (h__law_word.mono (by decide)) rfl bn__law_word r hg tk (ar_bw 0 (ar_fz (pm_pp (pp_name 1)) (ar_fz (pm_fd (h__law_draw.mono (by decide)) rfl bn__law_draw r hg tk (ar_bw 0 (ar_fz (pm_fd (h__law_pick.mono (by decide)) rfl bn__law_pick r hg tk (ar_bw 0 (ar_fz (pm_pp (pp_lst (aa_cons pp_int (aa_cons pp_int (aa_cons pp_int aa_nil))))) ar_nil))) ar_nil))) ar_nil)))) SC.nd) (sds_cons (sd_set 4 (pm_pp (pp_fd (h__law_text.mono (by decide)) rfl bn__law_text r hg (aa_cons (pp_name 3) aa_nil) (hfl := (aCons_len aNil_len)))) SC.nd) (sds_cons (sd_if (tm_tp (tp_cmp (o_ne (Room.u64 r)) (pp_callB (c_repr hg (Room.u110 r)) B.f_repr (aa_cons (pp_lst (aa_cons (pp_fd (h_word_text.mono (by decide)) rfl bn_word_text r hg (aa_cons (pp_name 1) (aa_cons (pp_name 3) aa_nil)) (hfl := (aCons_len (aCons_len aNil_len)))) (aa_cons (pp_fdK0 (h_word_text.mono (by decide)) rfl bk_word_text_0_word_rank (gv_perm _ _ _) (gr_perm _ _ _) r hg (kk_cons (pp_name 3) (kk_cons (pp_name 1) kk_nil))) aa_nil))) aa_nil)) (pp_callB (c_repr hg (Room.u110 r)) B.f_repr (aa_cons (pp_lst (aa_cons (pp_name 4) (aa_cons (pp_name 4) aa_nil))) aa_nil)))) (sds_one (sd_ret (pm_pp pp_bl))) sds_nil) (sds_cons (sd_if (tm_tp (tp_cmp (o_ne (Room.u64 r)) (pp_callB (c_repr hg (Room.u110 r)) B.f_repr (aa_cons (pp_lst (aa_cons (pp_fd (h_read_word.mono (by decide)) rfl bn_read_word r hg (aa_cons (pp_name 1) (aa_cons (pp_name 4) aa_nil)) (hfl := (aCons_len (aCons_len aNil_len)))) (aa_cons (pp_fdK0 (h_read_word.mono (by decide)) rfl bk_read_word_0_text_rank (gv_perm _ _ _) (gr_perm _ _ _) r hg (kk_cons (pp_name 4) (kk_cons (pp_name 1) kk_nil))) (aa_cons (pp_fd (h_word_text.mono (by decide)) rfl bn_word_text r hg (aa_cons pp_int (aa_cons (pp_name 3) aa_nil)) (hfl := (aCons_len (aCons_len aNil_len)))) aa_nil)))) aa_nil)) (pp_callB (c_repr hg (Room.u110 r)) B.f_repr (aa_cons (pp_lst (aa_cons (pp_name 3) (aa_cons (pp_name 3) (aa_cons (pp_name 4) aa_nil)))) aa_nil)))) (sds_one (sd_ret (pm_pp pp_bl))) sds_nil) (sds_one (sd_forM (vs := [5]) ps rfl (pm_bin o_add (pm_lc rfl SC.nd (ip_range1 B.f_range (aa_cons pp_int aa_nil)) (blkOk_by (own := [("more", 7)]) (by first | rfl | with_unfolding_all rfl)) (fun _ _ _ _ _ => (gp_name 7 SC.nd)) (fun _ _ _ _ _ => tps_nil) (fun _ _ _ _ _ => (pm_fd (h__law_bent.mono (by decide)) rfl bn__law_bent r hg takes_no (ar_bw 0 (ar_fz (pm_pp (pp_name 4)) ar_nil))))) (pm_pp (pp_lst (aa_cons pp_str (aa_cons pp_str (aa_cons pp_str (aa_cons pp_str (aa_cons (pp_bin o_mul pp_str pp_int) (aa_cons (pp_bin o_mul pp_str pp_int) (aa_cons pp_str (aa_cons pp_str aa_nil))))))))))) (gp_name 5 SC.nd) (sds_cons (sd_set 6 (pm_pp (pp_fd (h__law_read.mono (by decide)) rfl bn__law_read r hg (aa_cons (pp_name 1) (aa_cons (pp_name 5) aa_nil)) (hfl := (aCons_len (aCons_len aNil_len))))) SC.nd) (sds_one (sd_if (tm_tp (tp_cmp (o_ne (Room.u64 r)) (pp_callB (c_repr hg (Room.u110 r)) B.f_repr (aa_cons (pp_fd (h__law_heard.mono (by decide)) rfl bn__law_heard r hg (aa_cons (pp_name 1) (aa_cons (pp_name 5) aa_nil)) (hfl := (aCons_len (aCons_len aNil_len)))) aa_nil)) (pp_callB (c_repr hg (Room.u110 r)) B.f_repr (aa_cons (pp_if (tp_cmp o_is (pp_name 6) pp_non) (pp_lst (aa_cons pp_str (aa_cons pp_non (aa_cons pp_bl aa_nil)))) (pp_lst (aa_cons pp_str (aa_cons (pp_name 6) aa_nil)))) aa_nil)))) (sds_one (sd_ret (pm_pp pp_bl))) sds_nil)))))))))) (sds_one (sd_ret (pm_pp (pp_callB (c_all rfl) B.f_all (aa_cons (pp_lc rfl SC.nd (ip_seq (pp_lst (aa_cons pp_non (aa_cons pp_int (aa_cons pp_int (aa_cons (pp_tup (aa_cons pp_int aa_nil)) (aa_cons (pp_lst (aa_cons pp_str aa_nil)) (aa_cons pp_bl (aa_cons pp_dic0 aa_nil))))))))) (blkOk_by (own := [("odd", 8)]) (by first | rfl | with_unfolding_all rfl)) (fun _ _ _ _ _ => (gp_name 8 SC.nd)) (fun _ _ _ _ _ => tps_nil) (fun _ _ _ _ _ => (pp_cmp (o_eq (Room.u64 r)) (pp_fd (h__law_heard.mono (by decide)) rfl bn__law_heard r hg (aa_cons (pp_name 1) (aa_cons (pp_name 8) aa_nil)) (hfl := (aCons_len (aCons_len aNil_len)))) (pp_lst (aa_cons pp_str (aa_cons pp_non (aa_cons pp_bl aa_nil))))))) aa_nil))))))))
theorem sc_law : FnScope ["script", "k"] ["script"] d_law.scope := ⟨rfl, rfl, rfl, by decide +kernel, rfl, by decide +kernel, by decide +kernel⟩
theorem ok_law (B : Fx K mg) (h__law_pot : Cal P w K mg base 1 d__law_pot ["script", "k"] F__law_pot) (h__law_right : Cal P w K mg base 8 d__law_right ["pot"] F__law_right) : Cal P w K mg base 9 d_law ["script"] F_law :=
  cal_of (N := ["script", "k"]) (k := 8) (lk := []) B.n_law B.d_law rfl sc_law fun cdv A outer s H E r hg =>
    have SC := sc_law
    have tk := takes_of (X := cxOf (CX P w) P w K mg base ["script", "k"] d_law.qual d_law.scope (He.fAd K d_law.at_) cdv A outer s H E) rfl rfl rfl rfl
    have ps := passes_of (X := cxOf (CX P w) P w K mg base ["script", "k"] d_law.qual d_law.scope (He.fAd K d_law.at_) cdv A outer s H E) rfl
    (by exact (sds_one (sd_ret (pm_callB (c_all rfl) B.f_all (am_cons (pm_lc rfl SC.nd (ip_range1 B.f_range (aa_cons (pp_callB (c_max2 rfl) B.f_max (aa_cons pp_int (aa_cons (pp_callB (c_min2 rfl) B.f_min (aa_cons pp_int (aa_cons (pp_callB c_len B.f_len (aa_cons (pp_name 0) aa_nil)) aa_nil))) aa_nil))) aa_nil)) (blkOk_by (own := [("k", 1)]) (by first | rfl | with_unfolding_all rfl)) (fun _ _ _ _ _ => (gp_name 1 SC.nd)) (fun _ _ _ _ _ => tps_nil) (fun _ _ _ _ _ => (pm_fd (h__law_right.mono (by decide)) rfl bn__law_right r hg takes_no (ar_ow (pm_pp (pp_fd (h__law_pot.mono (by decide)) rfl bn__law_pot r hg (aa_cons (pp_name 0) (aa_cons (pp_name 1) aa_nil)) (hfl := (aCons_len (aCons_len aNil_len))))) ar_nil)))) am_nil)))))
theorem al_is_integer (B : Fx K mg) : Cal P w K mg base 1 d_is_integer ["value"] F_is_integer := ok_is_integer B 
theorem al_is_reduced (B : Fx K mg) : Cal P w K mg base 1 d_is_reduced ["row"] F_is_reduced := ok_is_reduced B 
theorem al_word_told (B : Fx K mg) : Cal P w K mg base 1 d_word_told ["word"] F_word_told := ok_word_told B 
theorem al__law_pot (B : Fx K mg) : Cal P w K mg base 1 d__law_pot ["script", "k"] F__law_pot := ok__law_pot B 
theorem al__law_draw (B : Fx K mg) : Cal P w K mg base 1 d__law_draw ["pot", "many"] F__law_draw := ok__law_draw B 
theorem al__law_letters (B : Fx K mg) : Cal P w K mg base 1 d__law_letters ["rank"] F__law_letters := ok__law_letters B 
theorem al__law_text (B : Fx K mg) : Cal P w K mg base 1 d__law_text ["word"] F__law_text := ok__law_text B 
theorem al__law_read (B : Fx K mg) : Cal P w K mg base 1 d__law_read ["rank", "text"] F__law_read := ok__law_read B 
theorem al_is_letter (B : Fx K mg) : Cal P w K mg base 2 d_is_letter ["rank", "value"] F_is_letter := ok_is_letter B (al_is_integer B)
theorem al_want_rank (B : Fx K mg) : Cal P w K mg base 2 d_want_rank ["value"] F_want_rank := ok_want_rank B (al_is_integer B)
theorem al__law_pick (B : Fx K mg) : Cal P w K mg base 2 d__law_pick ["pot", "some"] F__law_pick := ok__law_pick B (al__law_draw B)
theorem al_is_row (B : Fx K mg) : Cal P w K mg base 3 d_is_row ["rank", "value"] F_is_row := ok_is_row B (al_is_letter B)
theorem al__law_word (B : Fx K mg) : Cal P w K mg base 3 d__law_word ["pot", "rank", "many"] F__law_word := ok__law_word B (al__law_letters B) (al__law_pick B)
theorem al__law_bent (B : Fx K mg) : Cal P w K mg base 3 d__law_bent ["pot", "text"] F__law_bent := ok__law_bent B (al__law_draw B) (al__law_pick B)
theorem al_is_word (B : Fx K mg) : Cal P w K mg base 4 d_is_word ["rank", "value"] F_is_word := ok_is_word B (al_is_reduced B) (al_is_row B)
theorem al_want_word (B : Fx K mg) : Cal P w K mg base 5 d_want_word ["rank", "value"] F_want_word := ok_want_word B (al_is_word B)
theorem al_word_read (B : Fx K mg) : Cal P w K mg base 5 d_word_read ["rank", "text"] F_word_read := ok_word_read B (al_is_word B)
theorem al_want_ranked (B : Fx K mg) : Cal P w K mg base 6 d_want_ranked ["rank", "word"] F_want_ranked := ok_want_ranked B (al_want_rank B) (al_want_word B)
theorem al_read_word (B : Fx K mg) : Cal P w K mg base 6 d_read_word ["rank", "text"] F_read_word := ok_read_word B (al_want_rank B) (al_word_read B)
theorem al_word_text (B : Fx K mg) : Cal P w K mg base 7 d_word_text ["rank", "word"] F_word_text := ok_word_text B (al_want_ranked B) (al_word_told B)
theorem al__law_heard (B : Fx K mg) : Cal P w K mg base 7 d__law_heard ["rank", "text"] F__law_heard := ok__law_heard B (al_read_word B)
theorem al__law_right (B : Fx K mg) : Cal P w K mg base 8 d__law_right ["pot"] F__law_right := ok__law_right B (al__law_bent B) (al__law_draw B) (al__law_heard B) (al__law_pick B) (al__law_read B) (al__law_text B) (al__law_word B) (al_read_word B) (al_word_text B)
theorem al_law (B : Fx K mg) : Cal P w K mg base 9 d_law ["script"] F_law := ok_law B (al__law_pot B) (al__law_right B)
end
end G13

set_option maxHeartbeats 0
namespace G13
open PySem PySem.Spec PyProof.Rows L2 DL
def fnl_0 : List He.DefD := [d_is_integer, d_is_reduced, d_word_told, d__law_pot, d__law_draw, d__law_letters, d__law_text, d__law_read, d_is_letter, d_want_rank, d__law_pick, d_is_row, d__law_word, d__law_bent, d_is_word, d_want_word, d_word_read, d_want_ranked, d_read_word, d_word_text]
def fnl_1 : List He.DefD := [d__law_heard, d__law_right, d_law, d_BadText_init]
def fnl : List He.DefD := fnl_0 ++ fnl_1
def fal_0 : List He.Fa := [.glo "is_integer", .glo "is_reduced", .glo "word_told", .glo "_law_pot", .glo "_law_draw", .glo "_law_letters", .glo "_law_text", .glo "_law_read", .glo "is_letter", .glo "want_rank", .glo "_law_pick", .glo "is_row", .glo "_law_word", .glo "_law_bent", .glo "is_word", .glo "want_word", .glo "word_read", .glo "want_ranked", .glo "read_word", .glo "word_text"]
def fal_1 : List He.Fa := [.glo "_law_heard", .glo "_law_right", .glo "law", .glo "BadText", .glo "HandfulError", .free "abs", .free "all", .free "bool", .free "divmod", .free "int", .free "isinstance", .free "len", .free "max", .free "min", .free "range", .free "repr", .free "str", .free "tuple", .free "zip", .str "EMPTY" "1"]
def fal_2 : List He.Fa := [.glo "LETTERS", .int "MOST_RANK" 4, .int "MOST_ROW" 240, .int "MOST_WORD" 60, .str "SIGNS" "abcdABCD"]
def fal : List He.Fa := fal_0 ++ fal_1 ++ fal_2
def loose_0 : List PySem.Str := ["HandfulError", "InvalidRank", "InvalidWord", "BadText", "is_integer", "MOST_RANK", "MOST_ROW", "MOST_WORD", "is_letter", "is_row", "is_reduced", "is_word", "want_rank", "want_word", "want_ranked", "SIGNS", "LETTERS", "EMPTY", "word_told", "word_read"]
def loose_1 : List PySem.Str := ["word_text", "read_word", "_law_pot", "_law_draw", "_law_pick", "_law_mixed", "_law_letters", "_law_reduced", "_law_undone", "_law_product", "_law_row", "_law_word", "_law_text", "_law_read", "_law_heard", "_law_bent", "_law_right"]
def loose : List PySem.Str := loose_0 ++ loose_1
def chk (K : PySem.W.Frag) : Bool := (tupI K "LETTERS" [1, 2, 3, 4, -1, -2, -3, -4]) && (ecB K "BadText" "position") && (exmB K "BadText" "BadText" true) && (kitOB K "BadText" "HandfulError" true)
abbrev R : PySem.W.OpenRow := PySem.W.OpenLaw.row PySem.Challenge.rw_wordhandfuls_k13_whole_texts_of_words
abbrev hk : PySem.W.Hook := hookX 4 fal fnl chk
def ob (s : PySem.W.SharedT) : He.AlD × Bool := obX 4 fal fnl chk (HandSHeadRun.getT s)
theorem ob_eq (s : PySem.W.SharedT) : ob s = hk.obs s.abs := obX_eq (HandSHeadRun.getT_eq s)
theorem run (w : World) : HandSHeadRun.RunEq R (PySem.W.view R.prog [42]) hk ob 3000 loose w := by
  intro os
  kernel_rfl
theorem fx {K : PySem.W.Frag} {h : Heap} {mg : Str → Option Value} (X : K.In h) (G : h.Ns mainGlobals mg) (c : He.SaysD fal fnl K) (k : chk K = true) : Fx K mg := by
  unfold chk at k
  simp only [Bool.and_eq_true] at k
  obtain ⟨⟨⟨k0, k1⟩, k2⟩, k3⟩ := k
  exact {
    n_is_integer := He.glo_ok X G (c.fact 0 (f := .glo "is_integer") rfl)
    d_is_integer := c.def_ 0 (d := d_is_integer) rfl
    n_is_reduced := He.glo_ok X G (c.fact 1 (f := .glo "is_reduced") rfl)
    d_is_reduced := c.def_ 1 (d := d_is_reduced) rfl
    n_word_told := He.glo_ok X G (c.fact 2 (f := .glo "word_told") rfl)
    d_word_told := c.def_ 2 (d := d_word_told) rfl
    n__law_pot := He.glo_ok X G (c.fact 3 (f := .glo "_law_pot") rfl)
    d__law_pot := c.def_ 3 (d := d__law_pot) rfl
    n__law_draw := He.glo_ok X G (c.fact 4 (f := .glo "_law_draw") rfl)
    d__law_draw := c.def_ 4 (d := d__law_draw) rfl
    n__law_letters := He.glo_ok X G (c.fact 5 (f := .glo "_law_letters") rfl)
    d__law_letters := c.def_ 5 (d := d__law_letters) rfl
    n__law_text := He.glo_ok X G (c.fact 6 (f := .glo "_law_text") rfl)
    d__law_text := c.def_ 6 (d := d__law_text) rfl
    n__law_read := He.glo_ok X G (c.fact 7 (f := .glo "_law_read") rfl)
    d__law_read := c.def_ 7 (d := d__law_read) rfl
    n_is_letter := He.glo_ok X G (c.fact 8 (f := .glo "is_letter") rfl)
    d_is_letter := c.def_ 8 (d := d_is_letter) rfl
    n_want_rank := He.glo_ok X G (c.fact 9 (f := .glo "want_rank") rfl)
    d_want_rank := c.def_ 9 (d := d_want_rank) rfl
    n__law_pick := He.glo_ok X G (c.fact 10 (f := .glo "_law_pick") rfl)
    d__law_pick := c.def_ 10 (d := d__law_pick) rfl
    n_is_row := He.glo_ok X G (c.fact 11 (f := .glo "is_row") rfl)
    d_is_row := c.def_ 11 (d := d_is_row) rfl
    n__law_word := He.glo_ok X G (c.fact 12 (f := .glo "_law_word") rfl)
    d__law_word := c.def_ 12 (d := d__law_word) rfl
    n__law_bent := He.glo_ok X G (c.fact 13 (f := .glo "_law_bent") rfl)
    d__law_bent := c.def_ 13 (d := d__law_bent) rfl
    n_is_word := He.glo_ok X G (c.fact 14 (f := .glo "is_word") rfl)
    d_is_word := c.def_ 14 (d := d_is_word) rfl
    n_want_word := He.glo_ok X G (c.fact 15 (f := .glo "want_word") rfl)
    d_want_word := c.def_ 15 (d := d_want_word) rfl
    n_word_read := He.glo_ok X G (c.fact 16 (f := .glo "word_read") rfl)
    d_word_read := c.def_ 16 (d := d_word_read) rfl
    n_want_ranked := He.glo_ok X G (c.fact 17 (f := .glo "want_ranked") rfl)
    d_want_ranked := c.def_ 17 (d := d_want_ranked) rfl
    n_read_word := He.glo_ok X G (c.fact 18 (f := .glo "read_word") rfl)
    d_read_word := c.def_ 18 (d := d_read_word) rfl
    n_word_text := He.glo_ok X G (c.fact 19 (f := .glo "word_text") rfl)
    d_word_text := c.def_ 19 (d := d_word_text) rfl
    n__law_heard := He.glo_ok X G (c.fact 20 (f := .glo "_law_heard") rfl)
    d__law_heard := c.def_ 20 (d := d__law_heard) rfl
    n__law_right := He.glo_ok X G (c.fact 21 (f := .glo "_law_right") rfl)
    d__law_right := c.def_ 21 (d := d__law_right) rfl
    n_law := He.glo_ok X G (c.fact 22 (f := .glo "law") rfl)
    d_law := c.def_ 22 (d := d_law) rfl
    g_BadText := He.glo_ok X G (c.fact 23 (f := .glo "BadText") rfl)
    g_HandfulError := He.glo_ok X G (c.fact 24 (f := .glo "HandfulError") rfl)
    f_abs := He.free_ok X G (c.fact 25 (f := .free "abs") rfl)
    f_all := He.free_ok X G (c.fact 26 (f := .free "all") rfl)
    f_bool := He.free_ok X G (c.fact 27 (f := .free "bool") rfl)
    f_divmod := He.free_ok X G (c.fact 28 (f := .free "divmod") rfl)
    f_int := He.free_ok X G (c.fact 29 (f := .free "int") rfl)
    f_isinstance := He.free_ok X G (c.fact 30 (f := .free "isinstance") rfl)
    f_len := He.free_ok X G (c.fact 31 (f := .free "len") rfl)
    f_max := He.free_ok X G (c.fact 32 (f := .free "max") rfl)
    f_min := He.free_ok X G (c.fact 33 (f := .free "min") rfl)
    f_range := He.free_ok X G (c.fact 34 (f := .free "range") rfl)
    f_repr := He.free_ok X G (c.fact 35 (f := .free "repr") rfl)
    f_str := He.free_ok X G (c.fact 36 (f := .free "str") rfl)
    f_tuple := He.free_ok X G (c.fact 37 (f := .free "tuple") rfl)
    f_zip := He.free_ok X G (c.fact 38 (f := .free "zip") rfl)
    c_EMPTY := He.str_ok X G (c.fact 39 (f := .str "EMPTY" "1") rfl)
    g_LETTERS := He.glo_ok X G (c.fact 40 (f := .glo "LETTERS") rfl)
    c_MOST_RANK := He.int_ok X G (c.fact 41 (f := .int "MOST_RANK" 4) rfl)
    c_MOST_ROW := He.int_ok X G (c.fact 42 (f := .int "MOST_ROW" 240) rfl)
    c_MOST_WORD := He.int_ok X G (c.fact 43 (f := .int "MOST_WORD" 60) rfl)
    c_SIGNS := He.str_ok X G (c.fact 44 (f := .str "SIGNS" "abcdABCD") rfl)
    t_LETTERS := tupI_ok k0
    e_BadText := (c.def_ 23 (d := d_BadText_init) rfl).elim fun fd F => ec_of (by decide) (He.glo_ok X G (c.fact 23 (f := .glo "BadText") rfl)) k1 F rfl rfl rfl
    m_BadText := of_decide_eq_true k2
    k_BadText_HandfulError := of_decide_eq_true k3
  }
end G13
open PySem PySem.W PyProof.Rows
theorem G13.holds_of (tr : ∀ ns : List Int, ns.length ≤ 63 → ∃ e, G13.F_law [.d (.ro (DL.dints ns))] = .ok (.d (.bl true)) e) : PySem.Challenge.rw_wordhandfuls_k13_whole_texts_of_words.Holds := by
  w_on; o_law
  refine HandSHeadRun.head_any (r := OpenLaw.row PySem.Challenge.rw_wordhandfuls_k13_whole_texts_of_words) (q := view (OpenLaw.row PySem.Challenge.rw_wordhandfuls_k13_whole_texts_of_words).prog [42]) (H := G13.hk) (ob := G13.ob) (M := 3000) (loose := G13.loose) (d := HandSHeadRun.topDef (OpenLaw.row PySem.Challenge.rw_wordhandfuls_k13_whole_texts_of_words).prog 42) (kwd := []) G13.ob_eq
    (by kernel_rfl) (fun s => by kernel_rfl) G13.run (by kernel_rfl) (by kernel_rfl) (by kernel_rfl) (by rfl) (by first | assumption | decide +kernel) (by decide +kernel) ⟨rfl, rfl, rfl, rfl, rfl, by decide +kernel⟩ ?hw ?hc
  case hw => w_witness2
  case hc =>
    refine DL.walk_dl (l := PySem.Challenge.rw_wordhandfuls_k13_whole_texts_of_words) (n := 63) (k := 9) (x := "script") (F := G13.F_law) rfl (by decide) (by kernel_rfl) ⟨rfl, by decide, by decide⟩ ?F tr
    intro w mg fa h Y G hmg0
    obtain ⟨K, KX, c, ck⟩ := Y
    have hmg : mg ("law" : PySem.Str) = some (.ref fa) := by
      have e : (HandSHeadRun.topDef (OpenLaw.row PySem.Challenge.rw_wordhandfuls_k13_whole_texts_of_words).prog 42).name = ("law" : PySem.Str) := by kernel_rfl
      rw [← e]
      exact hmg0
    have B := G13.fx KX G c ck
    obtain ⟨fd, hb, hF⟩ := DL.fd_all (P := (PySem.Challenge.rw_wordhandfuls_k13_whole_texts_of_words).prog) (w := w) (d := G13.d_law) (x := "script") (F := G13.F_law) hmg B.n_law G13.bn_law rfl B.d_law fun base => G13.al_law B
    exact ⟨K, fd, KX, hb, fun base _ _ => hF base⟩

set_option maxHeartbeats 4000000
namespace G13
open PySem PySem.Spec PyProof.Rows L2 DL
/-! # The plain law -/
theorem is_integer_int (i : Int) : F_is_integer [.d (.int i)] = .ok (.d (.bl true)) [some (.d (.int i))] := by rfl
theorem is_letter_int (r i : Int) : F_is_letter [.d (.int r), .d (.int i)] = .ok (.d (.bl (decide (1 ≤ (if i < 0 then -i else i)) && decide ((if i < 0 then -i else i) ≤ r)))) [some (.d (.int r)), some (.d (.int i))] := by
  by_cases h : 1 ≤ (if i < 0 then -i else i) <;> simp [F_is_letter, B_is_letter, is_integer_int, h]
theorem want_rank_ok (r : Int) (h1 : 1 ≤ r) (h2 : r ≤ 4) : F_want_rank [.d (.int r)] = .ok (.d .non) [some (.d (.int r))] := by
  simp [F_want_rank, B_want_rank, is_integer_int, h1, h2]
/-! ### draws -/
theorem gMul_int {i j : Int} (hi : i.natAbs < 2 ^ 64) (hj : j.natAbs < 2 ^ 64) : gMul (.int i) (.int j) = some (.fz (.int (i * j))) := by
  unfold gMul
  refine if_pos ?_
  have h1 : i.natAbs.log2 < 65 := by
    by_cases h : i.natAbs = 0
    · rw [h]; decide
    · exact Nat.lt_of_lt_of_le ((Nat.log2_lt h).mpr hi) (by decide)
  have h2 : j.natAbs.log2 < 65 := by
    by_cases h : j.natAbs = 0
    · rw [h]; decide
    · exact Nat.lt_of_lt_of_le ((Nat.log2_lt h).mpr hj) (by decide)
  omega
/-- one draw: the digit, the pot behind it -/
def drawn (a b n : Int) : Int × Int × Int := if 0 < a then (a % n, a / n, b) else ((((b * 39373 + 1301) % 2147483587 * ((b * 39373 + 1301) % 2147483587)) % 2147483563 / 19) % n, a, (b * 39373 + 1301) % 2147483587)
theorem draw_run (a b n : Int) (ha : 0 ≤ a) (hb : 0 ≤ b) (hb2 : b < 2147483648) (hn : 0 < n) (hn2 : n < 1000) :
    F__law_draw [.lst [.int a, .int b], .d (.int n)] = .ok (.d (.int (drawn a b n).1)) [some (.lst [.int (drawn a b n).2.1, .int (drawn a b n).2.2]), some (.d (.int n))] := by
  have hn3 : n < 1073741824 := by omega
  have l19 : Nat.log2 19 < 9000 := by decide +kernel
  by_cases h : 0 < a
  · simp [F__law_draw, B__law_draw, drawn, h, atI, ixN, hn, hn3]
  · have m1 : gMul (.int b) (.int 39373) = some (.fz (.int (b * 39373))) := gMul_int (by omega) (by decide)
    have c0 : 0 ≤ (b * 39373 + 1301) % 2147483587 := Int.emod_nonneg _ (by decide)
    have c1 : (b * 39373 + 1301) % 2147483587 < 2147483587 := Int.emod_lt_of_pos _ (by decide)
    have m2' := gMul_int (i := (b * 39373 + 1301) % 2147483587) (j := (b * 39373 + 1301) % 2147483587) (by omega) (by omega)
    simp [F__law_draw, B__law_draw, drawn, h, atI, ixN, hn, hn3, m1, m2', l19]
/-- what a pot is -/
def Pot (p : List D) : Prop := ∃ a b : Int, p = [.int a, .int b] ∧ 0 ≤ a ∧ 0 ≤ b ∧ b < 2147483648
theorem draw_ok {p : List D} (h : Pot p) (n : Int) (hn : 0 < n) (hn2 : n < 1000) : ∃ (k : Int) (p' : List D), Pot p' ∧ 0 ≤ k ∧ k < n ∧ F__law_draw [.lst p, .d (.int n)] = .ok (.d (.int k)) [some (.lst p'), some (.d (.int n))] := by
  obtain ⟨a, b, rfl, ha, hb, hb2⟩ := h
  refine ⟨_, _, ⟨_, _, rfl, ?_, ?_, ?_⟩, ?_, ?_, draw_run a b n ha hb hb2 hn hn2⟩
  · unfold drawn
    split
    · exact Int.ediv_nonneg ha (by omega)
    · exact ha
  · unfold drawn
    split
    · exact hb
    · exact Int.emod_nonneg _ (by decide)
  · unfold drawn
    split
    · exact hb2
    · exact Int.lt_trans (Int.emod_lt_of_pos _ (by decide)) (by decide)
  · unfold drawn
    split
    · exact Int.emod_nonneg _ (by omega)
    · exact Int.emod_nonneg _ (by omega)
  · unfold drawn
    split
    · exact Int.emod_lt_of_pos _ hn
    · exact Int.emod_lt_of_pos _ hn
theorem pick_ok {p : List D} (h : Pot p) (xs : List D) (h0 : 0 < xs.length) (h1 : xs.length < 1000) : ∃ (x : D) (p' : List D), Pot p' ∧ x ∈ xs ∧ F__law_pick [.lst p, .d (.lst xs)] = .ok (.d x) [some (.lst p'), some (.d (.lst xs))] := by
  obtain ⟨k, p', hp, k0, k1, e⟩ := draw_ok h (xs.length : Int) (by omega) (by omega)
  have hk : k.toNat < xs.length := by omega
  have at_ : atI xs k = some xs[k.toNat] := by
    unfold atI ixN
    rw [if_pos k0, if_pos k1]
    simp [hk]
  refine ⟨xs[k.toNat], p', hp, List.getElem_mem hk, ?_⟩
  simp [F__law_pick, B__law_pick, e, at_]
theorem letters_1 : F__law_letters [.d (.int 1)] = .ok (.lst [.int 1, .int (-1)]) [some (.d (.int 1))] := by rfl
theorem letters_2 : F__law_letters [.d (.int 2)] = .ok (.lst [.int 1, .int (-1), .int 2, .int (-2)]) [some (.d (.int 2))] := by rfl
theorem letters_3 : F__law_letters [.d (.int 3)] = .ok (.lst [.int 1, .int (-1), .int 2, .int (-2), .int 3, .int (-3)]) [some (.d (.int 3))] := by rfl
theorem letters_4 : F__law_letters [.d (.int 4)] = .ok (.lst [.int 1, .int (-1), .int 2, .int (-2), .int 3, .int (-3), .int 4, .int (-4)]) [some (.d (.int 4))] := by rfl
/-! ### words -/
/-- a letter of rank r -/
def Let (r i : Int) : Prop := i ≠ 0 ∧ -r ≤ i ∧ i ≤ r
/-- reduced -/
def Red : List Int → Prop
  | [] => True
  | [_] => True
  | a :: b :: w => a + b ≠ 0 ∧ Red (b :: w)
def lets (r : Int) : List Int := if r = 1 then [1, -1] else if r = 2 then [1, -1, 2, -2] else if r = 3 then [1, -1, 2, -2, 3, -3] else [1, -1, 2, -2, 3, -3, 4, -4]
theorem letters_ok {r : Int} (h1 : 1 ≤ r) (h2 : r ≤ 4) : F__law_letters [.d (.int r)] = .ok (.lst (dints (lets r))) [some (.d (.int r))] := by
  have : r = 1 ∨ r = 2 ∨ r = 3 ∨ r = 4 := by omega
  rcases this with rfl | rfl | rfl | rfl
  · exact letters_1
  · exact letters_2
  · exact letters_3
  · exact letters_4
theorem lets_let {r : Int} (h1 : 1 ≤ r) (h2 : r ≤ 4) : ∀ i ∈ lets r, Let r i := by
  have : r = 1 ∨ r = 2 ∨ r = 3 ∨ r = 4 := by omega
  rcases this with rfl | rfl | rfl | rfl <;> (intro i hi; simp [lets] at hi; unfold Let; omega)
theorem lets_two {r : Int} (h1 : 1 ≤ r) (h2 : r ≤ 4) : 1 ∈ lets r ∧ -1 ∈ lets r := by
  have : r = 1 ∨ r = 2 ∨ r = 3 ∨ r = 4 := by omega
  rcases this with rfl | rfl | rfl | rfl <;> simp [lets]
theorem lets_len (r : Int) : (lets r).length ≤ 8 := by
  unfold lets
  split
  · decide
  · split
    · decide
    · split <;> decide
theorem red_snoc : ∀ {w : List Int} {a b : Int}, Red (w ++ [a]) → a + b ≠ 0 → Red (w ++ [a, b])
  | [], a, b, _, h => ⟨h, trivial⟩
  | [c], a, b, h, h2 => ⟨h.1, h2, trivial⟩
  | c :: d :: w, a, b, h, h2 => ⟨h.1, red_snoc (w := d :: w) h.2 h2⟩
def lastI (w : List Int) : Int := w.getLastD 0
/-- the state of _law_word's loop -/
def wSt (p : List D) (r m : Int) (w : List Int) (t s : Option S) : En := [some (.lst p), some (.d (.int r)), some (.d (.int m)), some (.d (.tup (dints w))), t, s, none]
def wSome (r : Int) (w : List Int) : List Int := (lets r).filter fun i => decide (w = []) || !decide (i = 0 - lastI w)
def B_wfil : FP := pLc [6] (iSeq (pFd F__law_letters (aCons (pName 1) aNil))) (gNm 6) (tOr (tVal (p2 gEq (pName 3) (pTup aNil))) (tVal (p2 gNe (pName 6) (p2 gSub (pCon (.int 0)) (p2 gIx (pName 3) (p1 gNeg (pCon (.int 1)))))))) (pName 6)
theorem atI_neg1 {α : Type} (xs : List α) (h : xs ≠ []) : atI xs (-1) = xs.getLast? := by
  unfold atI ixN
  have hl : 0 < xs.length := List.length_pos_iff.mpr h
  rw [if_neg (by decide), if_pos (by omega)]
  rw [List.getLast?_eq_getElem?]
  show xs[((-1 : Int) + (xs.length : Int)).toNat]? = _
  congr 1
  omega
theorem natAbs_let {r i : Int} (h2 : r ≤ 4) (h : Let r i) : i.natAbs < 2 ^ 64 := by
  obtain ⟨_, a, b⟩ := h
  omega
theorem getLastD_mem {w : List Int} (z : w ≠ []) : lastI w ∈ w := by
  unfold lastI
  cases w with
  | nil => exact absurd rfl z
  | cons a w => rw [List.getLastD_cons, ← List.getLast_eq_getLastD]; exact List.getLast_mem (by simp)
theorem last_dints {w : List Int} (z : w ≠ []) : atI (dints w) (-1) = some (.int (lastI w)) := by
  unfold lastI
  rw [show dints w = w.map .int from rfl, atI_map, atI_neg1 w z, List.getLast?_eq_some_getLast z]
  cases w with
  | nil => exact absurd rfl z
  | cons a w => simp [List.getLastD_cons, List.getLast_eq_getLastD, List.getLast?_cons]
abbrev tWf : FT := DL.tOr (tVal (p2 gEq (pName 3) (pTup aNil))) (tVal (p2 gNe (pName 6) (p2 DL.gSub (pCon (.int 0)) (p2 gIx (pName 3) (p1 gNeg (pCon (.int 1)))))))
theorem tWf_ok {e : En} {r i : Int} {w : List Int} (h2 : r ≤ 4) (hw : ∀ i ∈ w, Let r i) (hi : Let r i) (h3 : e[3]? = some (some (.d (.tup (dints w))))) (h6 : e[6]? = some (some (.d (.int i)))) : tWf e = some (decide (w = []) || !decide (i = 0 - lastI w)) := by
  have nw : (D.tup (dints w)).nice = true := nice_dints fun j hj => natAbs_let h2 (hw j hj)
  have dw : (D.tup (dints w)).dep ≤ 64 := by show depL (dints w) + 1 ≤ 64; rw [dep_dints]; decide
  have e1 : gEq (.tup (dints w)) (.tup []) = some (.fz (.bl (decide (w = [])))) := by
    rw [gEq_nice nw rfl dw (by decide)]
    have := eqb_tupI w []
    rw [dints_nil] at this
    rw [this]
  by_cases z : w = []
  · have e1' : gEq (.tup (dints w)) (.tup []) = some (.fz (.bl true)) := by rw [e1, decide_eq_true z]
    subst z
    simp at e1'
    simp [tWf, h3, e1']
  · have e1' : gEq (.tup (dints w)) (.tup []) = some (.fz (.bl false)) := by rw [e1, decide_eq_false z]
    have hL := hw _ (getLastD_mem z)
    have e2 : gNe (.int i) (.int (0 - lastI w)) = some (.fz (.bl (!decide (i = 0 - lastI w)))) := by
      rw [gNe_nice (nice_int (natAbs_let h2 hi)) (nice_int (by have := natAbs_let h2 hL; omega)) (Nat.zero_le _) (Nat.zero_le _), eqb_int]
    rw [Int.zero_sub] at e2 ⊢
    simp [tWf, h3, h6, e1', z, last_dints z, e2]
theorem wfil_list {e : En} {r : Int} {w : List Int} (h2 : r ≤ 4) (hw : ∀ i ∈ w, Let r i) (h3 : e[3]? = some (some (.d (.tup (dints w))))) (hl : e.length = 7) : ∀ v : List Int, (∀ i ∈ v, Let r i) →
    lcL (gNm 6) tWf (pName 6) e (dints v) = some (dints (v.filter fun i => decide (w = []) || !decide (i = 0 - lastI w)))
  | [], _ => rfl
  | i :: v, hv => by
    have ih := wfil_list h2 hw h3 hl v fun j hj => hv j (List.mem_cons_of_mem _ hj)
    have t := tWf_ok (e := e.set 6 (some (.d (.int i)))) h2 hw (hv i List.mem_cons_self) (by rw [List.getElem?_set_ne (by decide)]; exact h3) (by rw [List.getElem?_set_self (by omega)])
    rw [dints_cons]
    unfold lcL
    rw [show gNm 6 (.int i) e = some (e.set 6 (some (.d (.int i)))) from if_pos (by omega), Option.bind_some, t, Option.bind_some, ih]
    rw [List.filter_cons]
    cases decide (w = []) || !decide (i = 0 - lastI w) with
    | true => simp [hl]
    | false => rfl
theorem filt_ok {p : List D} {r m : Int} {w : List Int} {t s : Option S} (h1 : 1 ≤ r) (h2 : r ≤ 4) (hw : ∀ i ∈ w, Let r i) : pLc [6] (iSeq (pFd F__law_letters (aCons (pName 1) aNil))) (gNm 6) tWf (pName 6) (wSt p r m w t s) = some (.fr (dints (wSome r w))) := by
  have a : iSeq (pFd F__law_letters (aCons (pName 1) aNil)) (wSt p r m w t s) = some (dints (lets r), true) := by simp [wSt, letters_ok h1 h2]
  have b := wfil_list (e := wSt p r m w t s) h2 hw rfl rfl (lets r) (lets_let h1 h2)
  have hl : (dints (wSome r w)).length ≤ SZ := by
    rw [dints_length]
    exact Nat.le_trans (List.length_filter_le _ _) (Nat.le_trans (lets_len r) (by decide))
  unfold pLc
  rw [a, Option.bind_some]
  show (lcL (gNm 6) tWf (pName 6) (wSt p r m w t s) (dints (lets r))).bind _ = _
  rw [b, Option.bind_some]
  exact if_pos hl
theorem wSome_pos {r : Int} {w : List Int} (h1 : 1 ≤ r) (h2 : r ≤ 4) : 0 < (wSome r w).length := by
  obtain ⟨a, b⟩ := lets_two h1 h2
  unfold wSome
  by_cases z : lastI w = -1
  · refine List.length_pos_iff.mpr (List.ne_nil_of_mem (a := -1) (List.mem_filter.mpr ⟨b, ?_⟩))
    rw [z]
    simp
  · refine List.length_pos_iff.mpr (List.ne_nil_of_mem (a := 1) (List.mem_filter.mpr ⟨a, ?_⟩))
    simp
    right
    omega
theorem red_add {w : List Int} {i : Int} (h : Red w) (hi : w = [] ∨ i ≠ 0 - lastI w) : Red (w ++ [i]) := by
  rcases hi with rfl | hi
  · trivial
  · rcases List.eq_nil_or_concat w with rfl | ⟨w, a, rfl⟩
    · trivial
    · rw [List.concat_eq_append] at h hi ⊢
      rw [List.append_assoc]
      refine red_snoc h ?_
      have : lastI (w ++ [a]) = a := by unfold lastI; simp
      rw [this] at hi
      omega
/-- a word of rank r -/
def GW (r : Int) (w : List Int) : Prop := Red w ∧ ∀ i ∈ w, Let r i
abbrev B_wbody : FS := sSeq (sSet 5 (mPP (pLc [6] (iSeq (pFd F__law_letters (aCons (pName 1) aNil))) (gNm 6) tWf (pName 6)))) (sSet 3 (m2 gAdd (mPP (pName 3)) (mTup (lCons (mFd 2 F__law_pick (arBw 0 (arFz (mPP (pName 5)) arNil))) lNil))))
theorem wstep {p : List D} {r m : Int} {w : List Int} {t s : Option S} (hp : Pot p) (h1 : 1 ≤ r) (h2 : r ≤ 4) (hw : GW r w) (hl : w.length ≤ 100) :
    ∃ (p' : List D) (i : Int) (s' : Option S), Pot p' ∧ GW r (w ++ [i]) ∧ B_wbody (wSt p r m w t s) = .nx (wSt p' r m (w ++ [i]) t s') := by
  have hf := filt_ok (p := p) (m := m) (t := t) (s := s) h1 h2 hw.2
  have hlen : (wSome r w).length < 1000 := Nat.lt_of_le_of_lt (List.length_filter_le _ _) (Nat.lt_of_le_of_lt (lets_len r) (by decide))
  obtain ⟨x, p', hp', hx, e⟩ := pick_ok hp (dints (wSome r w)) (by rw [dints_length]; exact wSome_pos h1 h2) (by rw [dints_length]; exact hlen)
  obtain ⟨i, hi, rfl⟩ := List.mem_map.mp hx
  obtain ⟨hi1, hi2⟩ := List.mem_filter.mp hi
  refine ⟨p', i, some (.d (.lst (dints (wSome r w)))), hp', ⟨red_add hw.1 ?_, fun j hj => ?_⟩, ?_⟩
  · simp at hi2
    rcases hi2 with z | z
    · exact .inl z
    · exact .inr (by omega)
  · rcases List.mem_append.mp hj with q | q
    · exact hw.2 j q
    · rw [List.mem_singleton.mp q]; exact lets_let h1 h2 i hi1
  · have hz : w.length + 1 ≤ SZ := by unfold SZ; omega
    have h1z : 1 ≤ SZ := by decide
    simp only [B_wbody, sSeq, sSet, mPP, hf]
    simp [wSt, e, dints_append, hz, h1z]
theorem wloop {r m : Int} (h1 : 1 ≤ r) (h2 : r ≤ 4) : ∀ (ds : List D) {p : List D} {w : List Int} {t s : Option S}, Pot p → GW r w → w.length + ds.length ≤ 100 →
    ∃ (p' : List D) (w' : List Int) (t' s' : Option S), Pot p' ∧ GW r w' ∧ w'.length = w.length + ds.length ∧ forL (gNm 4) B_wbody ds (wSt p r m w t s) = .nx (wSt p' r m w' t' s')
  | [], p, w, t, s, hp, hw, _ => ⟨p, w, t, s, hp, hw, rfl, rfl⟩
  | d :: ds, p, w, t, s, hp, hw, hl => by
    rw [List.length_cons] at hl
    obtain ⟨p1, i, s1, hp1, hw1, e1⟩ := wstep (m := m) (t := some (.d d)) (s := s) hp h1 h2 hw (by omega)
    obtain ⟨p2, w2, t2, s2, hp2, hw2, l2, e2⟩ := wloop h1 h2 ds (t := some (.d d)) (s := s1) hp1 hw1 (by rw [List.length_append, List.length_singleton]; omega)
    refine ⟨p2, w2, t2, s2, hp2, hw2, ?_, ?_⟩
    · rw [l2, List.length_append, List.length_singleton, List.length_cons]
      omega
    · unfold forL
      rw [show gNm 4 d (wSt p r m w t s) = some (wSt p r m w (some (.d d)) s) from rfl]
      simp only [e1]
      exact e2
theorem word_ok {p : List D} {r m : Int} (hp : Pot p) (h1 : 1 ≤ r) (h2 : r ≤ 4) (m0 : 0 ≤ m) (m1 : m ≤ 60) :
    ∃ (p' : List D) (w : List Int), Pot p' ∧ GW r w ∧ (w.length : Int) = m ∧ F__law_word [.lst p, .d (.int r), .d (.int m)] = .ok (.d (.tup (dints w))) [some (.lst p'), some (.d (.int r)), some (.d (.int m))] := by
  have hrl : (rangeD 0 m.toNat).length = m.toNat := by unfold rangeD; rw [List.length_map, List.length_range]
  obtain ⟨p', w, t, s, hp', hw, hl, e⟩ := wloop (m := m) h1 h2 (rangeD 0 m.toNat) (p := p) (w := []) (t := none) (s := none) hp ⟨trivial, fun _ h => nomatch h⟩ (by rw [hrl]; simp; omega)
  refine ⟨p', w, hp', hw, by rw [hl, hrl]; simp; omega, ?_⟩
  have i62m : i62 m = true := by unfold i62; rw [decide_eq_true (by omega), decide_eq_true (by omega)]; rfl
  have q1 : sSet 3 (mPP (pTup aNil)) (enter 7 [.lst p, .d (.int r), .d (.int m)]) = .nx (wSt p r m [] none none) := rfl
  have q2 : sFor (iRg1 (aCons (pName 2) aNil)) (gNm 4) B_wbody (wSt p r m [] none none) = .nx (wSt p' r m w t s) := by
    unfold sFor
    rw [show iRg1 (aCons (pName 2) aNil) (wSt p r m [] none none) = some (rangeD 0 m.toNat, true) from by simp [wSt, i62m]]
    exact e
  have q3 : B__law_word (enter 7 [.lst p, .d (.int r), .d (.int m)]) = .rt (.d (.tup (dints w))) (wSt p' r m w t s) := by
    unfold B__law_word
    show ((sSet 3 (mPP (pTup aNil)) (enter 7 [.lst p, .d (.int r), .d (.int m)])).seq fun e => (sFor (iRg1 (aCons (pName 2) aNil)) (gNm 4) B_wbody e).seq (sRet (mPP (pName 3)))) = _
    rw [q1]
    show (sFor (iRg1 (aCons (pName 2) aNil)) (gNm 4) B_wbody (wSt p r m [] none none)).seq (sRet (mPP (pName 3))) = _
    rw [q2]
    rfl
  unfold F__law_word fnF
  rw [q3]
  rfl
end G13

set_option maxHeartbeats 4000000
namespace G13
open PySem PySem.Spec PyProof.Rows L2 DL
/-! ### texts -/
/-- a letter's sign -/
def cd (i : Int) : Nat := if 0 < i then 96 + i.toNat else 64 + (-i).toNat
def sg (c : Nat) : D := .str ⟨#[c]⟩
def txt (w : List Int) : Str := if w = [] then "1" else ⟨(w.map cd).toArray⟩
theorem glue_fold : ∀ (cs : List Nat) (acc : Array Nat), ((cs.map fun c => (⟨#[c]⟩ : Str)).foldl (fun acc p => acc ++ ("" : Str).cps ++ p.cps) acc) = acc ++ cs.toArray
  | [], acc => by simp
  | c :: cs, acc => by
    rw [List.map_cons, List.foldl_cons, glue_fold cs]
    have e : ("" : Str).cps = #[] := rfl
    rw [e]
    simp
theorem join_signs (cs : List Nat) : Txt.join ("" : Str) (cs.map fun c => (⟨#[c]⟩ : Str)) = ⟨cs.toArray⟩ := by
  cases cs with
  | nil => rfl
  | cons c cs =>
    unfold Txt.join Builtin.Str.glued
    have := glue_fold cs #[c]
    show (⟨((cs.map fun c => (⟨#[c]⟩ : Str)).foldl (fun acc p => acc ++ ("" : Str).cps ++ p.cps) #[c])⟩ : Str) = _
    rw [this]
    simp
theorem strs_sg : ∀ cs : List Nat, strs? (cs.map sg) = some (cs.map fun c => (⟨#[c]⟩ : Str))
  | [] => rfl
  | c :: cs => by
    show (strs? (cs.map sg)).map (fun b => (⟨#[c]⟩ : Str) :: b) = _
    rw [strs_sg cs]
    rfl
theorem sum_sg (cs : List Nat) : ((cs.map fun c => (⟨#[c]⟩ : Str)).map (·.length)).sum = cs.length := by
  rw [List.map_map]
  induction cs with
  | nil => rfl
  | cons c cs ih => rw [List.map_cons, List.sum_cons, ih, List.length_cons]; show 1 + cs.length = _; omega
theorem gJoin_sg (cs : List Nat) (h : cs.length ≤ 1000) : gJoin ("" : Str) [.lst (cs.map sg)] = some (.fz (.str ⟨cs.toArray⟩)) := by
  unfold gJoin
  simp only [strs_sg, Option.bind_some, sum_sg, join_signs, List.length_map]
  refine if_pos ?_
  show cs.length + cs.length * 0 ≤ SZ
  unfold SZ
  omega
theorem let_cases {i : Int} (h : Let 4 i) : i = 1 ∨ i = 2 ∨ i = 3 ∨ i = 4 ∨ i = -1 ∨ i = -2 ∨ i = -3 ∨ i = -4 := by
  unfold Let at h
  omega
theorem let_up {r i : Int} (h2 : r ≤ 4) (h : Let r i) : Let 4 i := by unfold Let at *; omega
abbrev P_lt : FP := pIf (tVal (p2 gGt (pName 1) (pCon (.int 0)))) (p2 gIx (pCon (.str "abcd")) (p2 DL.gSub (pName 1) (pCon (.int 1)))) (p2 gIx (pCon (.str "ABCD")) (p2 DL.gSub (p2 DL.gSub (pCon (.int 0)) (pName 1)) (pCon (.int 1))))
theorem lt_sign (x : Option S) {i : Int} (h : Let 4 i) : P_lt [x, some (.d (.int i))] = some (.fz (sg (cd i))) := by
  rcases let_cases h with rfl | rfl | rfl | rfl | rfl | rfl | rfl | rfl <;> rfl
theorem lt_list (x : Option S) (y : Option S) : ∀ w : List Int, (∀ i ∈ w, Let 4 i) → lcL (gNm 1) tAll P_lt [x, y] (dints w) = some ((w.map cd).map sg)
  | [], _ => rfl
  | i :: w, h => by
    rw [dints_cons]
    unfold lcL
    rw [show gNm 1 (.int i) [x, y] = some [x, some (.d (.int i))] from rfl, Option.bind_some]
    show ((P_lt [x, some (.d (.int i))]).bind fun r => r.item.bind fun z => (lcL (gNm 1) tAll P_lt [x, y] (dints w)).map fun xs => z :: xs) = _
    rw [lt_sign x (h i List.mem_cons_self), lt_list x y w fun j hj => h j (List.mem_cons_of_mem _ hj)]
    rfl
theorem gEq_empty (w : List Int) (h : ∀ i ∈ w, Let 4 i) : gEq (.tup (dints w)) (.tup []) = some (.fz (.bl (decide (w = [])))) := by
  have nw : (D.tup (dints w)).nice = true := nice_dints fun j hj => natAbs_let (Int.le_refl 4) (h j hj)
  have dw : (D.tup (dints w)).dep ≤ 64 := by show depL (dints w) + 1 ≤ 64; rw [dep_dints]; decide
  rw [gEq_nice nw rfl dw (by decide)]
  have := eqb_tupI w []
  rw [dints_nil] at this
  rw [this]
theorem law_text_ok {w : List Int} (h : ∀ i ∈ w, Let 4 i) (hl : w.length ≤ 100) : F__law_text [.d (.tup (dints w))] = .ok (.d (.str (txt w))) [some (.d (.tup (dints w)))] := by
  have q : (pIf (tVal (p2 gEq (pName 0) (pTup aNil))) (pCon (.str "1")) (pSm gJoin (pCon (.str "")) (aCons (pLc [1] (iSeq (pName 0)) (gNm 1) tAll P_lt) aNil))) [some (.d (.tup (dints w))), none] = some (.fz (.str (txt w))) := by
    by_cases z : w = []
    · subst z
      rfl
    · have e1 := gEq_empty w h
      rw [decide_eq_false z] at e1
      have hz : ((w.map cd).map sg).length ≤ SZ := by rw [List.length_map, List.length_map]; unfold SZ; omega
      have e2 : pLc [1] (iSeq (pName 0)) (gNm 1) tAll P_lt [some (.d (.tup (dints w))), none] = some (.fr ((w.map cd).map sg)) := by
        unfold pLc
        rw [show iSeq (pName 0) [some (.d (.tup (dints w))), none] = some (dints w, true) from rfl, Option.bind_some]
        show (lcL (gNm 1) tAll P_lt [some (.d (.tup (dints w))), none] (dints w)).bind _ = _
        rw [lt_list _ _ w h, Option.bind_some]
        exact if_pos hz
      have e3 := gJoin_sg (w.map cd) (by rw [List.length_map]; omega)
      unfold pIf
      have e4 : tVal (p2 gEq (pName 0) (pTup aNil)) [some (.d (.tup (dints w))), none] = some false := by
        show ((some (RV.fz (.tup (dints w)))).bind fun a => (some (RV.fz (.tup []))).bind fun b => gEq a.view b.view).bind RV.b? = _
        show (gEq (.tup (dints w)) (.tup [])).bind RV.b? = _
        rw [e1]
        rfl
      rw [e4]
      show pSm gJoin (pCon (.str "")) (aCons (pLc [1] (iSeq (pName 0)) (gNm 1) tAll P_lt) aNil) [some (.d (.tup (dints w))), none] = _
      unfold pSm aCons
      rw [e2]
      show gJoin "" [.lst ((w.map cd).map sg)] = _
      rw [e3]
      unfold txt
      rw [if_neg z]
  unfold F__law_text fnF
  show (if lkOk [] 0 [.d (.tup (dints w))] = true then fin _ (B__law_text [some (.d (.tup (dints w))), none]) else _) = _
  unfold B__law_text sRet mPP
  rw [q]
  rfl
end G13

set_option maxHeartbeats 4000000
namespace G13
open PySem PySem.Spec PyProof.Rows L2 DL
/-! ### is_word -/
abbrev P_tl : FP := p2 gIx (pCon (.str "abcdABCD")) (pTi [1, 2, 3, 4, -1, -2, -3, -4] (pName 1))
theorem tl_sign (x : Option S) {i : Int} (h : Let 4 i) : P_tl [x, some (.d (.int i))] = some (.fz (sg (cd i))) := by
  rcases let_cases h with rfl | rfl | rfl | rfl | rfl | rfl | rfl | rfl <;> rfl
theorem tl_list (x : Option S) (y : Option S) : ∀ w : List Int, (∀ i ∈ w, Let 4 i) → lcL (gNm 1) tAll P_tl [x, y] (dints w) = some ((w.map cd).map sg)
  | [], _ => rfl
  | i :: w, h => by
    rw [dints_cons]
    unfold lcL
    rw [show gNm 1 (.int i) [x, y] = some [x, some (.d (.int i))] from rfl, Option.bind_some]
    show ((P_tl [x, some (.d (.int i))]).bind fun r => r.item.bind fun z => (lcL (gNm 1) tAll P_tl [x, y] (dints w)).map fun xs => z :: xs) = _
    rw [tl_sign x (h i List.mem_cons_self), tl_list x y w fun j hj => h j (List.mem_cons_of_mem _ hj)]
    rfl
theorem word_told_ok {w : List Int} (h : ∀ i ∈ w, Let 4 i) (hl : w.length ≤ 100) : F_word_told [.d (.tup (dints w))] = .ok (.d (.str (txt w))) [some (.d (.tup (dints w)))] := by
  have q : (pIf (tVal (p2 gEq (pName 0) (pTup aNil))) (pCon (.str "1")) (pSm gJoin (pCon (.str "")) (aCons (pLc [1] (iSeq (pName 0)) (gNm 1) tAll P_tl) aNil))) [some (.d (.tup (dints w))), none] = some (.fz (.str (txt w))) := by
    by_cases z : w = []
    · subst z
      rfl
    · have e1 := gEq_empty w h
      rw [decide_eq_false z] at e1
      have hz : ((w.map cd).map sg).length ≤ SZ := by rw [List.length_map, List.length_map]; unfold SZ; omega
      have e2 : pLc [1] (iSeq (pName 0)) (gNm 1) tAll P_tl [some (.d (.tup (dints w))), none] = some (.fr ((w.map cd).map sg)) := by
        unfold pLc
        rw [show iSeq (pName 0) [some (.d (.tup (dints w))), none] = some (dints w, true) from rfl, Option.bind_some]
        show (lcL (gNm 1) tAll P_tl [some (.d (.tup (dints w))), none] (dints w)).bind _ = _
        rw [tl_list _ _ w h, Option.bind_some]
        exact if_pos hz
      have e3 := gJoin_sg (w.map cd) (by rw [List.length_map]; omega)
      unfold pIf
      have e4 : tVal (p2 gEq (pName 0) (pTup aNil)) [some (.d (.tup (dints w))), none] = some false := by
        show (gEq (.tup (dints w)) (.tup [])).bind RV.b? = _
        rw [e1]
        rfl
      rw [e4]
      show pSm gJoin (pCon (.str "")) (aCons (pLc [1] (iSeq (pName 0)) (gNm 1) tAll P_tl) aNil) [some (.d (.tup (dints w))), none] = _
      unfold pSm aCons
      rw [e2]
      show gJoin "" [.lst ((w.map cd).map sg)] = _
      rw [e3]
      unfold txt
      rw [if_neg z]
  unfold F_word_told fnF
  show (if lkOk [] 0 [.d (.tup (dints w))] = true then fin _ (B_word_told [some (.d (.tup (dints w))), none]) else _) = _
  unfold B_word_told sRet mPP
  rw [q]
  rfl
def letB (r i : Int) : Bool := decide (1 ≤ (if i < 0 then -i else i)) && decide ((if i < 0 then -i else i) ≤ r)
theorem letB_iff {r i : Int} : letB r i = true ↔ Let r i := by
  unfold letB Let
  rw [Bool.and_eq_true, decide_eq_true_iff, decide_eq_true_iff]
  split <;> omega
def bl (b : Bool) : D := .bl b
theorem bls_bl : ∀ bs : List Bool, bls? (bs.map bl) = some bs
  | [] => rfl
  | b :: bs => by
    show (bls? (bs.map bl)).map (b :: ·) = _
    rw [bls_bl bs]
    rfl
theorem gAll_bl (bs : List Bool) : gAll [.lst (bs.map bl)] = some (.fz (.bl (bs.all id))) := by
  show (bls? (bs.map bl)).map _ = _
  rw [bls_bl]
  rfl
abbrev P_il : FP := pFd F_is_letter (aCons (pName 0) (aCons (pName 2) aNil))
theorem il_list (r : Int) (x y : Option S) : ∀ w : List Int, lcL (gNm 2) tAll P_il [some (.d (.int r)), x, y] (dints w) = some ((w.map (letB r)).map bl)
  | [] => rfl
  | i :: w => by
    rw [dints_cons]
    unfold lcL
    rw [show gNm 2 (.int i) [some (.d (.int r)), x, y] = some [some (.d (.int r)), x, some (.d (.int i))] from rfl, Option.bind_some]
    show ((P_il [some (.d (.int r)), x, some (.d (.int i))]).bind fun r' => r'.item.bind fun z => (lcL (gNm 2) tAll P_il [some (.d (.int r)), x, y] (dints w)).map fun xs => z :: xs) = _
    have e : P_il [some (.d (.int r)), x, some (.d (.int i))] = some (.fz (bl (letB r i))) := by
      show callP F_is_letter [.fz (.int r), .fz (.int i)] = _
      unfold callP
      show (match F_is_letter [.d (.int r), .d (.int i)] with | .ok s _ => _ | _ => none) = _
      rw [is_letter_int]
      rfl
    rw [e, il_list r x y w]
    rfl
theorem is_row_ok (r : Int) (w : List Int) (hl : w.length ≤ 200) : F_is_row [.d (.int r), .d (.tup (dints w))] = .ok (.d (.bl (w.all (letB r)))) [some (.d (.int r)), some (.d (.tup (dints w)))] := by
  have e2 : pLc [2] (iSeq (pName 1)) (gNm 2) tAll P_il [some (.d (.int r)), some (.d (.tup (dints w))), none] = some (.fr ((w.map (letB r)).map bl)) := by
    unfold pLc
    rw [show iSeq (pName 1) [some (.d (.int r)), some (.d (.tup (dints w))), none] = some (dints w, true) from rfl, Option.bind_some]
    show (lcL (gNm 2) tAll P_il [some (.d (.int r)), some (.d (.tup (dints w))), none] (dints w)).bind _ = _
    rw [il_list, Option.bind_some]
    refine if_pos ?_
    rw [List.length_map, List.length_map]
    unfold SZ
    omega
  have e3 : pCa gAll (aCons (pLc [2] (iSeq (pName 1)) (gNm 2) tAll P_il) aNil) [some (.d (.int r)), some (.d (.tup (dints w))), none] = some (.fz (.bl (w.all (letB r)))) := by
    unfold pCa aCons
    rw [e2]
    show gAll [.lst ((w.map (letB r)).map bl)] = _
    rw [gAll_bl, List.all_map]
    rfl
  have e4 : p2 gLe (pCa gLen (aCons (pName 1) aNil)) (pCon (.int 240)) [some (.d (.int r)), some (.d (.tup (dints w))), none] = some (.fz (.bl true)) := by
    show some (RV.fz (.bl (decide (((dints w).length : Int) ≤ 240)))) = _
    rw [decide_eq_true (by rw [dints_length]; omega)]
  have e5 : B_is_row [some (.d (.int r)), some (.d (.tup (dints w))), none] = .rt (.d (.bl (w.all (letB r)))) [some (.d (.int r)), some (.d (.tup (dints w))), none] :=
    ret_fz ((pAnd_t rfl).trans ((pAnd_t e4).trans e3))
  unfold F_is_row fnF
  rw [show enter 3 [.d (.int r), .d (.tup (dints w))] = [some (.d (.int r)), some (.d (.tup (dints w))), none] from rfl, e5]
  rfl
def redB : List Int → Bool
  | [] => true
  | [_] => true
  | a :: b :: w => !decide (a + b = 0) && redB (b :: w)
theorem redB_iff : ∀ {w : List Int}, redB w = true ↔ Red w
  | [] => by simp [redB, Red]
  | [_] => by simp [redB, Red]
  | a :: b :: w => by simp [redB, Red, redB_iff (w := b :: w)]
def pairsB : List Int → List Bool
  | [] => []
  | [_] => []
  | a :: b :: w => (!decide (a + b = 0)) :: pairsB (b :: w)
theorem pairsB_all : ∀ w : List Int, (pairsB w).all id = redB w
  | [] => rfl
  | [_] => rfl
  | a :: b :: w => by show ((!decide (a + b = 0)) && (pairsB (b :: w)).all id) = _; rw [pairsB_all (b :: w)]; rfl
theorem pairsB_len : ∀ w : List Int, (pairsB w).length ≤ w.length
  | [] => Nat.le_refl _
  | [_] => Nat.zero_le _
  | a :: b :: w => by show (pairsB (b :: w)).length + 1 ≤ _; have := pairsB_len (b :: w); simp at this ⊢; omega
def zp : List Int → List D
  | [] => []
  | [_] => []
  | a :: b :: w => .tup [.int a, .int b] :: zp (b :: w)
theorem zp_eq : ∀ w : List Int, zipD (dints w) ((dints w).drop 1) = zp w
  | [] => rfl
  | [_] => rfl
  | a :: b :: w => by
    have ih := zp_eq (b :: w)
    show .tup [.int a, .int b] :: zipD (dints (b :: w)) (dints w) = _
    rw [show dints w = (dints (b :: w)).drop 1 from rfl, ih]
    rfl
abbrev P_rd : FP := p2 gNe (p2 DL.gAdd (pName 1) (pName 2)) (pCon (.int 0))
abbrev G_rd : FG := gTp 2 (gsCons (gNm 1) (gsCons (gNm 2) gsNil))
theorem rd_list (x y z : Option S) : ∀ w : List Int, (∀ i ∈ w, Let 4 i) → lcL G_rd tAll P_rd [x, y, z] (zp w) = some ((pairsB w).map bl)
  | [], _ => rfl
  | [_], _ => rfl
  | a :: b :: w, h => by
    have ih := rd_list x y z (b :: w) fun j hj => h j (List.mem_cons_of_mem _ hj)
    show lcL G_rd tAll P_rd [x, y, z] (.tup [.int a, .int b] :: zp (b :: w)) = _
    unfold lcL
    rw [show G_rd (.tup [.int a, .int b]) [x, y, z] = some [x, some (.d (.int a)), some (.d (.int b))] from rfl, Option.bind_some]
    show ((P_rd [x, some (.d (.int a)), some (.d (.int b))]).bind fun r => r.item.bind fun q => (lcL G_rd tAll P_rd [x, y, z] (zp (b :: w))).map fun xs => q :: xs) = _
    have e : P_rd [x, some (.d (.int a)), some (.d (.int b))] = some (.fz (bl (!decide (a + b = 0)))) := by
      show gNe (.int (a + b)) (.int 0) = _
      have ha := h a List.mem_cons_self
      have hb := h b (List.mem_cons_of_mem _ List.mem_cons_self)
      unfold Let at ha hb
      rw [gNe_nice (nice_int (by omega)) (nice_int (by decide)) (Nat.zero_le _) (Nat.zero_le _), eqb_int]
      rfl
    rw [e, ih]
    rfl
theorem cut1 {α : Type} (xs : List α) : DL.cutD xs (some 1) none = xs.drop 1 := by
  unfold DL.cutD
  rw [show HT.sIx xs.length 0 (some 1) = min 1 xs.length from HT.sIx_nat _ _ 1, HT.sIx_none]
  cases xs with
  | nil => rfl
  | cons a xs => simp
theorem is_reduced_ok (w : List Int) (h : ∀ i ∈ w, Let 4 i) (hl : w.length ≤ 200) : F_is_reduced [.d (.tup (dints w))] = .ok (.d (.bl (redB w))) [some (.d (.tup (dints w)))] := by
  have e1 : iZip (aCons (pName 0) (aCons (pSl (pName 0) (oSome (pCon (.int 1))) oNone) aNil)) [some (.d (.tup (dints w))), none, none] = some (zp w, true) := by
    show zipR [.fz (.tup (dints w)), .fz (.tup (DL.cutD (dints w) (some 1) none))] = _
    rw [cut1]
    show some (zipD (dints w) ((dints w).drop 1), true) = _
    rw [zp_eq]
  have e2 : pLc [1, 2] (iZip (aCons (pName 0) (aCons (pSl (pName 0) (oSome (pCon (.int 1))) oNone) aNil))) G_rd tAll P_rd [some (.d (.tup (dints w))), none, none] = some (.fr ((pairsB w).map bl)) := by
    unfold pLc
    rw [e1, Option.bind_some]
    show (lcL G_rd tAll P_rd [some (.d (.tup (dints w))), none, none] (zp w)).bind _ = _
    rw [rd_list _ _ _ w h, Option.bind_some]
    refine if_pos ?_
    rw [List.length_map]
    have := pairsB_len w
    unfold SZ
    omega
  have e3 : B_is_reduced [some (.d (.tup (dints w))), none, none] = .rt (.d (.bl (redB w))) [some (.d (.tup (dints w))), none, none] :=
    ret_fz ((pCa_ok (aCons_ok e2 (rs := []) rfl)).trans ((gAll_bl (pairsB w)).trans (by rw [pairsB_all])))
  unfold F_is_reduced fnF
  rw [show enter 3 [.d (.tup (dints w))] = [some (.d (.tup (dints w))), none, none] from rfl, e3]
  rfl
end G13

set_option maxHeartbeats 4000000
namespace G13
open PySem PySem.Spec PyProof.Rows L2 DL
def wordB (r : Int) (w : List Int) : Bool := w.all (letB r) && (decide (w.length ≤ 60) && redB w)
theorem is_word_ok (r : Int) (w : List Int) (h : ∀ i ∈ w, Let 4 i) (hl : w.length ≤ 200) : F_is_word [.d (.int r), .d (.tup (dints w))] = .ok (.d (.bl (wordB r w))) [some (.d (.int r)), some (.d (.tup (dints w)))] := by
  have e1 : pFd F_is_row (aCons (pName 0) (aCons (pName 1) aNil)) [some (.d (.int r)), some (.d (.tup (dints w)))] = some (.fz (.bl (w.all (letB r)))) :=
    (pFd_ok (rs := [.fz (.int r), .fz (.tup (dints w))]) rfl).trans (callP_fz (is_row_ok r w hl) (.inr rfl))
  have e2 : p2 gLe (pCa gLen (aCons (pName 1) aNil)) (pCon (.int 60)) [some (.d (.int r)), some (.d (.tup (dints w)))] = some (.fz (.bl (decide (w.length ≤ 60)))) := by
    show some (RV.fz (.bl (decide (((dints w).length : Int) ≤ 60)))) = _
    rw [dints_length]
    congr 3
    rw [decide_eq_decide]
    omega
  have e3 : pFd F_is_reduced (aCons (pName 1) aNil) [some (.d (.int r)), some (.d (.tup (dints w)))] = some (.fz (.bl (redB w))) :=
    (pFd_ok (rs := [.fz (.tup (dints w))]) rfl).trans (callP_fz (is_reduced_ok w h hl) (.inr rfl))
  have e4 : B_is_word [some (.d (.int r)), some (.d (.tup (dints w)))] = .rt (.d (.bl (wordB r w))) [some (.d (.int r)), some (.d (.tup (dints w)))] := by
    refine ret_fz ?_
    unfold wordB
    cases h1 : w.all (letB r) with
    | false => rw [h1] at e1; exact pAnd_f e1
    | true =>
      rw [h1] at e1
      refine (pAnd_t e1).trans ?_
      cases h2 : decide (w.length ≤ 60) with
      | false => rw [h2] at e2; exact pAnd_f e2
      | true => rw [h2] at e2; exact (pAnd_t e2).trans e3
  unfold F_is_word fnF
  rw [show enter 2 [.d (.int r), .d (.tup (dints w))] = [some (.d (.int r)), some (.d (.tup (dints w)))] from rfl, e4]
  rfl
theorem gw_wordB {r : Int} {w : List Int} (h : GW r w) (hl : w.length ≤ 60) : wordB r w = true := by
  unfold wordB
  rw [redB_iff.mpr h.1, decide_eq_true hl, List.all_eq_true.mpr fun i hi => letB_iff.mpr (h.2 i hi)]
  rfl
theorem want_word_ok {r : Int} {w : List Int} (h : ∀ i ∈ w, Let 4 i) (hl : w.length ≤ 200) (hw : wordB r w = true) : F_want_word [.d (.int r), .d (.tup (dints w))] = .ok (.d .non) [some (.d (.int r)), some (.d (.tup (dints w)))] := by
  have e1 : pFd F_is_word (aCons (pName 0) (aCons (pName 1) aNil)) [some (.d (.int r)), some (.d (.tup (dints w)))] = some (.fz (.bl true)) :=
    (pFd_ok (rs := [.fz (.int r), .fz (.tup (dints w))]) rfl).trans (callP_fz (by rw [← hw]; exact is_word_ok r w h hl) (.inr rfl))
  have e2 : B_want_word [some (.d (.int r)), some (.d (.tup (dints w)))] = .nx [some (.d (.int r)), some (.d (.tup (dints w)))] := by
    refine if_f ?_
    unfold DL.tNot
    rw [tVal_ok e1]
    rfl
  unfold F_want_word fnF
  rw [show enter 2 [.d (.int r), .d (.tup (dints w))] = [some (.d (.int r)), some (.d (.tup (dints w)))] from rfl, e2]
  rfl
theorem expr_fz {f : FP} {e : En} {x : D} (h : f e = some (.fz x)) : sExpr (mPP f) e = .nx e := by unfold sExpr mPP; rw [h]; rfl
theorem want_ranked_ok {r : Int} {w : List Int} (h1 : 1 ≤ r) (h2 : r ≤ 4) (h : ∀ i ∈ w, Let 4 i) (hl : w.length ≤ 200) (hw : wordB r w = true) : F_want_ranked [.d (.int r), .d (.tup (dints w))] = .ok (.d .non) [some (.d (.int r)), some (.d (.tup (dints w)))] := by
  have e1 : pFd F_want_rank (aCons (pName 0) aNil) [some (.d (.int r)), some (.d (.tup (dints w)))] = some (.fz .non) :=
    (pFd_ok (rs := [.fz (.int r)]) rfl).trans (callP_fz (want_rank_ok r h1 h2) (.inr rfl))
  have e2 : pFd F_want_word (aCons (pName 0) (aCons (pName 1) aNil)) [some (.d (.int r)), some (.d (.tup (dints w)))] = some (.fz .non) :=
    (pFd_ok (rs := [.fz (.int r), .fz (.tup (dints w))]) rfl).trans (callP_fz (want_word_ok h hl hw) (.inr rfl))
  have e3 : B_want_ranked [some (.d (.int r)), some (.d (.tup (dints w)))] = .nx [some (.d (.int r)), some (.d (.tup (dints w)))] := (seq_nx (expr_fz e1)).trans (expr_fz e2)
  unfold F_want_ranked fnF
  rw [show enter 2 [.d (.int r), .d (.tup (dints w))] = [some (.d (.int r)), some (.d (.tup (dints w)))] from rfl, e3]
  rfl
theorem word_text_ok {r : Int} {w : List Int} (h1 : 1 ≤ r) (h2 : r ≤ 4) (h : ∀ i ∈ w, Let 4 i) (hl : w.length ≤ 100) (hw : wordB r w = true) : F_word_text [.d (.int r), .d (.tup (dints w))] = .ok (.d (.str (txt w))) [some (.d (.int r)), some (.d (.tup (dints w)))] := by
  have e1 : pFd F_want_ranked (aCons (pName 0) (aCons (pName 1) aNil)) [some (.d (.int r)), some (.d (.tup (dints w)))] = some (.fz .non) :=
    (pFd_ok (rs := [.fz (.int r), .fz (.tup (dints w))]) rfl).trans (callP_fz (want_ranked_ok h1 h2 h (by omega) hw) (.inr rfl))
  have e2 : pFd F_word_told (aCons (pName 1) aNil) [some (.d (.int r)), some (.d (.tup (dints w)))] = some (.fz (.str (txt w))) :=
    (pFd_ok (rs := [.fz (.tup (dints w))]) rfl).trans (callP_fz (word_told_ok h hl) (.inr rfl))
  have e3 : B_word_text [some (.d (.int r)), some (.d (.tup (dints w)))] = .rt (.d (.str (txt w))) [some (.d (.int r)), some (.d (.tup (dints w)))] := (seq_nx (expr_fz e1)).trans (ret_fz e2)
  unfold F_word_text fnF
  rw [show enter 2 [.d (.int r), .d (.tup (dints w))] = [some (.d (.int r)), some (.d (.tup (dints w)))] from rfl, e3]
  rfl
/-! ### a string read -/
def inS (c : Nat) : Bool := decide (c ∈ [97, 98, 99, 100, 65, 66, 67, 68])
def val (c : Nat) : Int := if c = 97 then 1 else if c = 98 then 2 else if c = 99 then 3 else if c = 100 then 4 else if c = 65 then -1 else if c = 66 then -2 else if c = 67 then -3 else -4
theorem val_let (c : Nat) : Let 4 (val c) := by
  unfold val Let
  repeat' split
  all_goals decide
def rd (r : Int) (z : Str) : Option (List Int) := if z = "1" then some [] else if z = "" ∨ z.cps.toList.all inS = false then none else if wordB r (z.cps.toList.map val) = true then some (z.cps.toList.map val) else none
def optW : Option (List Int) → D
  | none => .non
  | some w => .tup (dints w)
/-- what can be told apart: the sign's numbers are of the language -/
def okS (z : Str) : Prop := (D.str z).nice = true ∧ z.length ≤ 200
theorem in_list (x y u : Option S) : ∀ cs : List Nat, lcL (gNm 3) tAll (p2 gIn (pName 3) (pCon (.str "abcdABCD"))) [x, y, u, none] (cs.map sg) = some ((cs.map inS).map bl)
  | [] => rfl
  | c :: cs => by
    rw [List.map_cons]
    unfold lcL
    rw [show gNm 3 (sg c) [x, y, u, none] = some [x, y, u, some (.d (sg c))] from rfl, Option.bind_some]
    show ((p2 gIn (pName 3) (pCon (.str "abcdABCD")) [x, y, u, some (.d (sg c))]).bind fun r => r.item.bind fun q => (lcL (gNm 3) tAll (p2 gIn (pName 3) (pCon (.str "abcdABCD"))) [x, y, u, none] (cs.map sg)).map fun xs => q :: xs) = _
    rw [in_list x y u cs]
    rfl
abbrev P_vl : FP := p2 gIx (pCon (.tup (dints [1, 2, 3, 4, -1, -2, -3, -4]))) (pSm gSindex (pCon (.str "abcdABCD")) (aCons (pName 3) aNil))
theorem vl_sign (x y u : Option S) {c : Nat} (h : inS c = true) : P_vl [x, y, u, some (.d (sg c))] = some (.fz (.int (val c))) := by
  have o1 : Builtin.Str.occurrences "abcdABCD" ⟨#[97]⟩ 0 ("abcdABCD" : Str).length 1 = [0] := by decide +kernel
  have o2 : Builtin.Str.occurrences "abcdABCD" ⟨#[98]⟩ 0 ("abcdABCD" : Str).length 1 = [1] := by decide +kernel
  have o3 : Builtin.Str.occurrences "abcdABCD" ⟨#[99]⟩ 0 ("abcdABCD" : Str).length 1 = [2] := by decide +kernel
  have o4 : Builtin.Str.occurrences "abcdABCD" ⟨#[100]⟩ 0 ("abcdABCD" : Str).length 1 = [3] := by decide +kernel
  have o5 : Builtin.Str.occurrences "abcdABCD" ⟨#[65]⟩ 0 ("abcdABCD" : Str).length 1 = [4] := by decide +kernel
  have o6 : Builtin.Str.occurrences "abcdABCD" ⟨#[66]⟩ 0 ("abcdABCD" : Str).length 1 = [5] := by decide +kernel
  have o7 : Builtin.Str.occurrences "abcdABCD" ⟨#[67]⟩ 0 ("abcdABCD" : Str).length 1 = [6] := by decide +kernel
  have o8 : Builtin.Str.occurrences "abcdABCD" ⟨#[68]⟩ 0 ("abcdABCD" : Str).length 1 = [7] := by decide +kernel
  have key : ∀ (c k : Nat), Builtin.Str.occurrences "abcdABCD" ⟨#[c]⟩ 0 ("abcdABCD" : Str).length 1 = [k] → P_vl [x, y, u, some (.d (sg c))] = (gIx (.tup (dints [1, 2, 3, 4, -1, -2, -3, -4])) (.int k)) := fun c k o => by
    show (((Builtin.Str.occurrences "abcdABCD" ⟨#[c]⟩ 0 ("abcdABCD" : Str).length 1).head?.map fun i => RV.fz (.int (i : Nat))).bind fun b => gIx (.tup (dints [1, 2, 3, 4, -1, -2, -3, -4])) b.view) = _
    rw [o]
    rfl
  unfold inS at h
  have h := of_decide_eq_true h
  simp at h
  rcases h with rfl | rfl | rfl | rfl | rfl | rfl | rfl | rfl
  · exact (key _ _ o1).trans rfl
  · exact (key _ _ o2).trans rfl
  · exact (key _ _ o3).trans rfl
  · exact (key _ _ o4).trans rfl
  · exact (key _ _ o5).trans rfl
  · exact (key _ _ o6).trans rfl
  · exact (key _ _ o7).trans rfl
  · exact (key _ _ o8).trans rfl
theorem vl_list (x y u : Option S) : ∀ cs : List Nat, cs.all inS = true → lcL (gNm 3) tAll P_vl [x, y, u, none] (cs.map sg) = some (dints (cs.map val))
  | [], _ => rfl
  | c :: cs, h => by
    obtain ⟨h1, h2⟩ := Bool.and_eq_true_iff.mp (show (inS c && cs.all inS) = true from h)
    rw [List.map_cons]
    unfold lcL
    rw [show gNm 3 (sg c) [x, y, u, none] = some [x, y, u, some (.d (sg c))] from rfl, Option.bind_some]
    show ((P_vl [x, y, u, some (.d (sg c))]).bind fun r => r.item.bind fun q => (lcL (gNm 3) tAll P_vl [x, y, u, none] (cs.map sg)).map fun xs => q :: xs) = _
    rw [vl_sign x y u h1, vl_list x y u cs h2]
    rfl
theorem word_read_ok (r : Int) {z : Str} (hz : okS z) : F_word_read [.d (.int r), .d (.str z)] = .ok (.d (optW (rd r z))) [some (.d (.int r)), some (.d (.str z))] := by
  have l1 : (z.cps.toList).length ≤ 200 := by rw [Array.length_toList]; exact hz.2
  have eqs : ∀ y : Str, (D.str y).nice = true → gEq (.str z) (.str y) = some (.fz (.bl (decide (z = y)))) := fun y hy => by
    rw [gEq_nice hz.1 hy (Nat.zero_le _) (Nat.zero_le _), eqb_str]
  have hz1 : ∀ n : Nat, n ≤ 200 → n ≤ SZ := fun n h => by unfold SZ; omega
  have b : B_word_read [some (.d (.int r)), some (.d (.str z)), none, none] = .rt (.d (optW (rd r z))) [some (.d (.int r)), some (.d (.str z)), none, none] ∨ ∃ y, B_word_read [some (.d (.int r)), some (.d (.str z)), none, none] = .rt (.d (optW (rd r z))) [some (.d (.int r)), some (.d (.str z)), y, none] := by
    have t1 : tVal (p2 gEq (pName 1) (pCon (.str "1"))) [some (.d (.int r)), some (.d (.str z)), none, none] = some (decide (z = "1")) := tVal_ok (eqs "1" rfl)
    have t2 : tVal (p2 gEq (pName 1) (pCon (.str ""))) [some (.d (.int r)), some (.d (.str z)), none, none] = some (decide (z = "")) := tVal_ok (eqs "" rfl)
    have t3 : tVal (pCa gAll (aCons (pLc [3] (iSeq (pName 1)) (gNm 3) tAll (p2 gIn (pName 3) (pCon (.str "abcdABCD")))) aNil)) [some (.d (.int r)), some (.d (.str z)), none, none] = some (z.cps.toList.all inS) := by
      refine tVal_ok ((pCa_ok (aCons_ok (pLc_ok (ds := z.cps.toList.map sg) rfl (in_list _ _ _ _) ?_) (rs := []) rfl)).trans ((gAll_bl _).trans ?_))
      · rw [List.length_map, List.length_map]
        exact hz1 _ l1
      · rw [List.all_map]
        rfl
    by_cases c1 : z = "1"
    · left
      rw [decide_eq_true c1] at t1
      unfold rd
      rw [if_pos c1]
      exact seq_rt ((if_t t1).trans rfl)
    · rw [decide_eq_false c1] at t1
      have q1 : sIf (tMT (tVal (p2 gEq (pName 1) (pCon (.str "1"))))) (sRet (mPP (pTup aNil))) sNil [some (.d (.int r)), some (.d (.str z)), none, none] = .nx [some (.d (.int r)), some (.d (.str z)), none, none] := if_f t1
      unfold rd
      rw [if_neg c1]
      by_cases c2 : z = "" ∨ z.cps.toList.all inS = false
      · left
        rw [if_pos c2]
        refine (seq_nx q1).trans (seq_rt ((if_t ?_).trans rfl))
        unfold DL.tOr DL.tNot
        rw [t2, t3]
        rcases c2 with c2 | c2
        · rw [decide_eq_true c2]; rfl
        · rw [c2]; cases decide (z = "") <;> rfl
      · right
        rw [if_neg c2]
        have c3 : z ≠ "" := fun w => c2 (.inl w)
        have c4 : z.cps.toList.all inS = true := by
          cases q : z.cps.toList.all inS with
          | true => rfl
          | false => exact absurd (.inr q) c2
        refine ⟨some (.d (.tup (dints (z.cps.toList.map val)))), (seq_nx q1).trans ((seq_nx (if_f ?_)).trans ?_)⟩
        · unfold DL.tOr DL.tNot
          rw [t2, t3, decide_eq_false c3, c4]
          rfl
        · refine (seq_nx (set_fz (x := .tup (dints (z.cps.toList.map val))) ((pCa_ok (aCons_ok (pLc_ok (ds := z.cps.toList.map sg) rfl (vl_list _ _ _ _ c4) ?_) (rs := []) rfl)).trans rfl) (by show 2 < 4; decide))).trans ?_
          · rw [dints_length, List.length_map]
            exact hz1 _ l1
          · have w := is_word_ok r (z.cps.toList.map val) (fun i hi => by obtain ⟨c, _, rfl⟩ := List.mem_map.mp hi; exact val_let c) (by rw [List.length_map]; exact l1)
            have t4 : tVal (pFd F_is_word (aCons (pName 0) (aCons (pName 2) aNil))) [some (.d (.int r)), some (.d (.str z)), some (.d (.tup (dints (z.cps.toList.map val)))), none] = some (wordB r (z.cps.toList.map val)) :=
              tVal_ok ((pFd_ok (rs := [.fz (.int r), .fz (.tup (dints (z.cps.toList.map val)))]) rfl).trans (callP_fz w (.inr rfl)))
            refine ret_fz ?_
            cases q : wordB r (z.cps.toList.map val) with
            | true => rw [q] at t4; exact (pIf_t t4).trans rfl
            | false => rw [q] at t4; exact (pIf_f t4).trans rfl
  unfold F_word_read fnF
  rw [show enter 4 [.d (.int r), .d (.str z)] = [some (.d (.int r)), some (.d (.str z)), none, none] from rfl]
  rcases b with b | ⟨y, b⟩
  · rw [b]; rfl
  · rw [b]; rfl
end G13

set_option maxHeartbeats 4000000
namespace G13
open PySem PySem.Spec PyProof.Rows L2 DL
/-! ### _law_read -/
def okL (r : Int) : List Nat := if r = 1 then [97, 65] else if r = 2 then [97, 98, 65, 66] else if r = 3 then [97, 98, 99, 65, 66, 67] else [97, 98, 99, 100, 65, 66, 67, 68]
def okc (r : Int) (c : Nat) : Bool := decide (c ∈ okL r)
theorem rank4 {r : Int} (h1 : 1 ≤ r) (h2 : r ≤ 4) : r = 1 ∨ r = 2 ∨ r = 3 ∨ r = 4 := by omega
theorem okc_eq {r : Int} (h1 : 1 ≤ r) (h2 : r ≤ 4) (c : Nat) : okc r c = (inS c && letB r (val c)) := by
  have main : ∀ c ∈ [97, 98, 99, 100, 65, 66, 67, 68], okc r c = (inS c && letB r (val c)) := by
    rcases rank4 h1 h2 with rfl | rfl | rfl | rfl <;> decide
  cases q : inS c with
  | true =>
    have m := main c (of_decide_eq_true q)
    rw [q] at m
    exact m
  | false =>
    have n : c ∉ [97, 98, 99, 100, 65, 66, 67, 68] := of_decide_eq_false q
    refine decide_eq_false fun z => n ?_
    rcases rank4 h1 h2 with rfl | rfl | rfl | rfl <;> (simp [okL] at z ⊢; omega)
def scan (r : Int) (f : List Int) : List Nat → Option (List Int)
  | [] => some f
  | c :: cs => if okc r c = true then (if f ≠ [] ∧ lastI f + val c = 0 then none else scan r (f ++ [val c]) cs) else none
theorem redB_snoc {f : List Int} {x : Int} (h : redB f = true) : redB (f ++ [x]) = !(decide (f ≠ []) && decide (lastI f + x = 0)) := by
  rw [Bool.eq_iff_iff, redB_iff]
  rcases List.eq_nil_or_concat f with rfl | ⟨w, a, rfl⟩
  · simp [Red]
  · rw [List.concat_eq_append] at h ⊢
    have l : lastI (w ++ [a]) = a := by unfold lastI; simp
    rw [l]
    constructor
    · intro q
      have : a + x ≠ 0 := by
        clear h l
        induction w with
        | nil => exact q.1
        | cons b w ih =>
          cases w with
          | nil => exact ih q.2
          | cons d w => exact ih q.2
      simp [this]
    · intro q
      have : a + x ≠ 0 := by simpa using q
      rw [List.append_assoc]
      exact red_snoc (redB_iff.mp h) this
theorem redB_pre {f : List Int} : ∀ {v : List Int}, redB (f ++ v) = true → redB f = true := by
  induction f with
  | nil => intro v _; rfl
  | cons a f ih =>
    intro v h
    cases f with
    | nil => rfl
    | cons b f =>
      obtain ⟨h1, h2⟩ := Bool.and_eq_true_iff.mp (show ((!decide (a + b = 0)) && redB (b :: f ++ v)) = true from h)
      show ((!decide (a + b = 0)) && redB (b :: f)) = true
      rw [h1, ih h2]
      rfl
theorem scan_eq (r : Int) : ∀ (cs : List Nat) (f : List Int), redB f = true → scan r f cs = if cs.all (okc r) = true ∧ redB (f ++ cs.map val) = true then some (f ++ cs.map val) else none
  | [], f, h => by
    rw [if_pos ⟨rfl, by rw [List.map_nil, List.append_nil]; exact h⟩, List.map_nil, List.append_nil]
    rfl
  | c :: cs, f, h => by
    unfold scan
    cases q : okc r c with
    | false => rw [if_neg (by decide), if_neg (by rw [List.all_cons, q]; simp)]
    | true =>
      rw [if_pos rfl]
      have s := redB_snoc (x := val c) h
      by_cases z : f ≠ [] ∧ lastI f + val c = 0
      · rw [if_pos z, if_neg]
        rintro ⟨_, w⟩
        have : redB (f ++ [val c]) = true := redB_pre (v := cs.map val) (by rw [List.append_assoc]; exact w)
        rw [s, decide_eq_true z.1, decide_eq_true z.2] at this
        cases this
      · rw [if_neg z]
        have s' : redB (f ++ [val c]) = true := by
          rw [s]
          by_cases z1 : f = []
          · rw [decide_eq_false (by simpa using z1)]; rfl
          · rw [decide_eq_false (fun w => z ⟨z1, w⟩)]; simp
        rw [scan_eq r cs _ s', List.append_assoc]
        have e : (c :: cs).all (okc r) = cs.all (okc r) := by rw [List.all_cons, q]; rfl
        rw [e]
        rfl
abbrev P_ni : FT := tVal (p2 gNotIn (pName 3) (p2 DL.gAdd (pSl (pCon (.str "abcd")) oNone (oSome (pName 0))) (pSl (pCon (.str "ABCD")) oNone (oSome (pName 0)))))
abbrev P_le : FP := pIf (tVal (p2 gIn (pName 3) (pCon (.str "abcd")))) (p2 DL.gAdd (pSm gSindex (pCon (.str "abcd")) (aCons (pName 3) aNil)) (pCon (.int 1))) (p2 DL.gSub (p2 DL.gSub (pCon (.int 0)) (pSm gSindex (pCon (.str "ABCD")) (aCons (pName 3) aNil))) (pCon (.int 1)))
theorem ni_ok {r : Int} (h1 : 1 ≤ r) (h2 : r ≤ 4) (x y u : Option S) (c : Nat) : P_ni [some (.d (.int r)), x, y, some (.d (sg c)), u] = some (!okc r c) := by
  have c1 : cutS "abcd" none (some 1) = "a" := by decide +kernel
  have c2 : cutS "abcd" none (some 2) = "ab" := by decide +kernel
  have c3 : cutS "abcd" none (some 3) = "abc" := by decide +kernel
  have c4 : cutS "abcd" none (some 4) = "abcd" := by decide +kernel
  have k1 : cutS "ABCD" none (some 1) = "A" := by decide +kernel
  have k2 : cutS "ABCD" none (some 2) = "AB" := by decide +kernel
  have k3 : cutS "ABCD" none (some 3) = "ABC" := by decide +kernel
  have k4 : cutS "ABCD" none (some 4) = "ABCD" := by decide +kernel
  have key : ∀ (r : Int) (s t : Str), cutS "abcd" none (some r) = s → cutS "ABCD" none (some r) = t → s.length + t.length ≤ SZ → P_ni [some (.d (.int r)), x, y, some (.d (sg c)), u] = (gNotIn (sg c) (.str (s ++ t))).bind RV.b? := fun r s t e1 e2 hl => by
    show (((DL.gAdd (.str (cutS "abcd" none (some r))) (.str (cutS "ABCD" none (some r)))).bind fun b => gNotIn (sg c) b.view)).bind RV.b? = _
    rw [e1, e2]
    show (((if s.length + t.length ≤ SZ then some (RV.fz (.str (s ++ t))) else none).bind fun b => gNotIn (sg c) b.view)).bind RV.b? = _
    rw [if_pos hl]
    rfl
  rcases rank4 h1 h2 with rfl | rfl | rfl | rfl
  · exact (key 1 _ _ c1 k1 (by decide +kernel)).trans rfl
  · exact (key 2 _ _ c2 k2 (by decide +kernel)).trans rfl
  · exact (key 3 _ _ c3 k3 (by decide +kernel)).trans rfl
  · exact (key 4 _ _ c4 k4 (by decide +kernel)).trans rfl
theorem le_ok {r : Int} (x0 x y u : Option S) {c : Nat} (h : inS c = true) : P_le [x0, x, y, some (.d (sg c)), u] = some (.fz (.int (val c))) := by
  have o1 : Builtin.Str.occurrences "abcd" ⟨#[97]⟩ 0 ("abcd" : Str).length 1 = [0] := by decide +kernel
  have o2 : Builtin.Str.occurrences "abcd" ⟨#[98]⟩ 0 ("abcd" : Str).length 1 = [1] := by decide +kernel
  have o3 : Builtin.Str.occurrences "abcd" ⟨#[99]⟩ 0 ("abcd" : Str).length 1 = [2] := by decide +kernel
  have o4 : Builtin.Str.occurrences "abcd" ⟨#[100]⟩ 0 ("abcd" : Str).length 1 = [3] := by decide +kernel
  have o5 : Builtin.Str.occurrences "ABCD" ⟨#[65]⟩ 0 ("ABCD" : Str).length 1 = [0] := by decide +kernel
  have o6 : Builtin.Str.occurrences "ABCD" ⟨#[66]⟩ 0 ("ABCD" : Str).length 1 = [1] := by decide +kernel
  have o7 : Builtin.Str.occurrences "ABCD" ⟨#[67]⟩ 0 ("ABCD" : Str).length 1 = [2] := by decide +kernel
  have o8 : Builtin.Str.occurrences "ABCD" ⟨#[68]⟩ 0 ("ABCD" : Str).length 1 = [3] := by decide +kernel
  have lo : ∀ (c k : Nat), decide (c ∈ ("abcd" : Str).cps.toList) = true → Builtin.Str.occurrences "abcd" ⟨#[c]⟩ 0 ("abcd" : Str).length 1 = [k] → P_le [x0, x, y, some (.d (sg c)), u] = some (.fz (.int ((k : Int) + 1))) := fun c k m o => by
    refine (pIf_t (show tVal (p2 gIn (pName 3) (pCon (.str "abcd"))) [x0, x, y, some (.d (sg c)), u] = some true from ?_)).trans ?_
    · show some (decide (c ∈ ("abcd" : Str).cps.toList)) = _
      rw [m]
    · show (((Builtin.Str.occurrences "abcd" ⟨#[c]⟩ 0 ("abcd" : Str).length 1).head?.map fun i => RV.fz (.int (i : Nat))).bind fun a => DL.gAdd a.view (.int 1)) = _
      rw [o]
      rfl
  have up : ∀ (c k : Nat), decide (c ∈ ("abcd" : Str).cps.toList) = false → Builtin.Str.occurrences "ABCD" ⟨#[c]⟩ 0 ("ABCD" : Str).length 1 = [k] → P_le [x0, x, y, some (.d (sg c)), u] = some (.fz (.int (0 - (k : Int) - 1))) := fun c k m o => by
    refine (pIf_f (show tVal (p2 gIn (pName 3) (pCon (.str "abcd"))) [x0, x, y, some (.d (sg c)), u] = some false from ?_)).trans ?_
    · show some (decide (c ∈ ("abcd" : Str).cps.toList)) = _
      rw [m]
    · show ((((Builtin.Str.occurrences "ABCD" ⟨#[c]⟩ 0 ("ABCD" : Str).length 1).head?.map fun i => RV.fz (.int (i : Nat))).bind fun b => DL.gSub (.int 0) b.view).bind fun a => DL.gSub a.view (.int 1)) = _
      rw [o]
      rfl
  have h := of_decide_eq_true h
  simp at h
  rcases h with rfl | rfl | rfl | rfl | rfl | rfl | rfl | rfl
  · exact (lo _ _ (by decide +kernel) o1).trans rfl
  · exact (lo _ _ (by decide +kernel) o2).trans rfl
  · exact (lo _ _ (by decide +kernel) o3).trans rfl
  · exact (lo _ _ (by decide +kernel) o4).trans rfl
  · exact (up _ _ (by decide +kernel) o5).trans rfl
  · exact (up _ _ (by decide +kernel) o6).trans rfl
  · exact (up _ _ (by decide +kernel) o7).trans rfl
  · exact (up _ _ (by decide +kernel) o8).trans rfl
abbrev P_last : FT := DL.tAnd (tVal (p2 gNe (pName 2) (pLst aNil))) (tVal (p2 gEq (p2 DL.gAdd (p2 gIx (pName 2) (p1 gNeg (pCon (.int 1)))) (pName 4)) (pCon (.int 0))))
theorem last_ok (x0 x s : Option S) {f : List Int} {v : Int} (hf : ∀ i ∈ f, Let 4 i) (hv : Let 4 v) : P_last [x0, x, some (.lst (dints f)), s, some (.d (.int v))] = some (decide (f ≠ [] ∧ lastI f + v = 0)) := by
  have nf : (D.lst (dints f)).nice = true := nice_dints fun j hj => natAbs_let (Int.le_refl 4) (hf j hj)
  have df : (D.lst (dints f)).dep ≤ 64 := by show depL (dints f) + 1 ≤ 64; rw [dep_dints]; decide
  have e1 : gNe (.lst (dints f)) (.lst []) = some (.fz (.bl (!decide (f = [])))) := by
    rw [gNe_nice nf rfl df (by decide)]
    have := eqb_lstI f []
    rw [dints_nil] at this
    rw [this]
  have t1 : tVal (p2 gNe (pName 2) (pLst aNil)) [x0, x, some (.lst (dints f)), s, some (.d (.int v))] = some (!decide (f = [])) := tVal_ok e1
  unfold P_last DL.tAnd
  rw [t1]
  by_cases z : f = []
  · rw [decide_eq_true z, decide_eq_false (fun w => w.1 z)]
    rfl
  · rw [decide_eq_false z]
    show tVal (p2 gEq (p2 DL.gAdd (p2 gIx (pName 2) (p1 gNeg (pCon (.int 1)))) (pName 4)) (pCon (.int 0))) [x0, x, some (.lst (dints f)), s, some (.d (.int v))] = _
    have hL := hf _ (getLastD_mem z)
    refine (tVal_ok (b := decide (lastI f + v = 0)) ?_).trans ?_
    · show ((((atI (dints f) (-1)).map RV.fz).bind fun a => DL.gAdd a.view (.int v)).bind fun a => gEq a.view (.int 0)) = _
      rw [last_dints z]
      show gEq (.int (lastI f + v)) (.int 0) = _
      unfold Let at hL hv
      rw [gEq_nice (nice_int (by omega)) (nice_int (by decide)) (Nat.zero_le _) (Nat.zero_le _), eqb_int]
    · congr 1
      rw [decide_eq_decide]
      exact ⟨fun w => ⟨z, w⟩, fun w => w.2⟩
end G13

set_option maxHeartbeats 4000000
namespace G13
open PySem PySem.Spec PyProof.Rows L2 DL
abbrev B_rd : FS := sSeq (sIf (tMT P_ni) (sRet (mPP (pCon .non))) sNil) (sSeq (sSet 4 (mPP P_le)) (sSeq (sIf (tMT P_last) (sRet (mPP (pCon .non))) sNil) (sExpr (mMt 2 gApp (mPP (pName 4))))))
theorem rd_loop {r : Int} (h1 : 1 ≤ r) (h2 : r ≤ 4) (z : Option S) : ∀ (cs : List Nat) (f : List Int) (u v : Option S), (∀ i ∈ f, Let 4 i) → f.length + cs.length ≤ 200 →
    (∃ g u' v', scan r f cs = some g ∧ (∀ i ∈ g, Let 4 i) ∧ g.length = f.length + cs.length ∧ forL (gNm 3) B_rd (cs.map sg) [some (.d (.int r)), z, some (.lst (dints f)), u, v] = .nx [some (.d (.int r)), z, some (.lst (dints g)), u', v'])
    ∨ (scan r f cs = none ∧ ∃ g u' v', forL (gNm 3) B_rd (cs.map sg) [some (.d (.int r)), z, some (.lst (dints f)), u, v] = .rt (.d .non) [some (.d (.int r)), z, some (.lst (dints g)), u', v'])
  | [], f, u, v, hf, _ => .inl ⟨f, u, v, rfl, hf, rfl, rfl⟩
  | c :: cs, f, u, v, hf, hl => by
    rw [List.length_cons] at hl
    have step : forL (gNm 3) B_rd ((c :: cs).map sg) [some (.d (.int r)), z, some (.lst (dints f)), u, v] = (match B_rd [some (.d (.int r)), z, some (.lst (dints f)), some (.d (sg c)), v] with
      | .nx e2 => forL (gNm 3) B_rd (cs.map sg) e2
      | .ct e2 => forL (gNm 3) B_rd (cs.map sg) e2
      | .bk e2 => .nx e2
      | o => o) := rfl
    rw [step]
    have n := ni_ok h1 h2 z (some (.lst (dints f))) v c
    unfold scan
    cases q : okc r c with
    | false =>
      rw [q] at n
      rw [if_neg (by decide)]
      have b : B_rd [some (.d (.int r)), z, some (.lst (dints f)), some (.d (sg c)), v] = .rt (.d .non) [some (.d (.int r)), z, some (.lst (dints f)), some (.d (sg c)), v] := seq_rt ((if_t n).trans rfl)
      rw [b]
      exact .inr ⟨rfl, f, _, _, rfl⟩
    | true =>
      rw [q] at n
      rw [if_pos rfl]
      have hi : inS c = true := by
        rw [okc_eq h1 h2] at q
        exact (Bool.and_eq_true_iff.mp q).1
      have l := last_ok (some (.d (.int r))) z (some (.d (sg c))) hf (val_let c)
      have b1 : B_rd [some (.d (.int r)), z, some (.lst (dints f)), some (.d (sg c)), v] = sSeq (sIf (tMT P_last) (sRet (mPP (pCon .non))) sNil) (sExpr (mMt 2 gApp (mPP (pName 4)))) [some (.d (.int r)), z, some (.lst (dints f)), some (.d (sg c)), some (.d (.int (val c)))] :=
        (seq_nx ((if_f n).trans rfl)).trans (seq_nx (set_fz (le_ok (r := r) _ _ _ _ hi) (by show 4 < 5; decide)))
      rw [b1]
      by_cases c1 : f ≠ [] ∧ lastI f + val c = 0
      · rw [if_pos c1]
        rw [decide_eq_true c1] at l
        have b : sSeq (sIf (tMT P_last) (sRet (mPP (pCon .non))) sNil) (sExpr (mMt 2 gApp (mPP (pName 4)))) [some (.d (.int r)), z, some (.lst (dints f)), some (.d (sg c)), some (.d (.int (val c)))] = .rt (.d .non) [some (.d (.int r)), z, some (.lst (dints f)), some (.d (sg c)), some (.d (.int (val c)))] := seq_rt ((if_t l).trans rfl)
        rw [b]
        exact .inr ⟨rfl, f, _, _, rfl⟩
      · rw [if_neg c1]
        rw [decide_eq_false c1] at l
        have ap : sExpr (mMt 2 gApp (mPP (pName 4))) [some (.d (.int r)), z, some (.lst (dints f)), some (.d (sg c)), some (.d (.int (val c)))] = .nx [some (.d (.int r)), z, some (.lst (dints (f ++ [val c]))), some (.d (sg c)), some (.d (.int (val c)))] := by
          have g : gApp (dints f) (.int (val c)) = some (.non, dints f ++ [.int (val c)]) := if_pos (by rw [dints_length]; unfold SZ; omega)
          show (Out.st (match gApp (dints f) (.int (val c)) with
            | some (y, ys) => .ok (.d y) [some (.d (.int r)), z, some (.lst ys), some (.d (sg c)), some (.d (.int (val c)))]
            | none => .stuck) fun _ e1 => .nx e1) = _
          rw [g, dints_append]
          rfl
        have b : sSeq (sIf (tMT P_last) (sRet (mPP (pCon .non))) sNil) (sExpr (mMt 2 gApp (mPP (pName 4)))) [some (.d (.int r)), z, some (.lst (dints f)), some (.d (sg c)), some (.d (.int (val c)))] = .nx [some (.d (.int r)), z, some (.lst (dints (f ++ [val c]))), some (.d (sg c)), some (.d (.int (val c)))] := (seq_nx ((if_f l).trans rfl)).trans ap
        rw [b]
        have hf' : ∀ i ∈ f ++ [val c], Let 4 i := fun i hi => by
          rcases List.mem_append.mp hi with hi | hi
          · exact hf i hi
          · rw [List.mem_singleton.mp hi]; exact val_let c
        have R := rd_loop h1 h2 z cs (f ++ [val c]) (some (.d (sg c))) (some (.d (.int (val c)))) hf' (by rw [List.length_append]; show f.length + 1 + cs.length ≤ 200; omega)
        rcases R with ⟨g, u', v', e1, e2, e3, e4⟩ | ⟨e1, g, u', v', e4⟩
        · exact .inl ⟨g, u', v', e1, e2, by rw [e3]; simp only [List.length_append, List.length_cons, List.length_nil]; omega, e4⟩
        · exact .inr ⟨e1, g, u', v', e4⟩
theorem len_chain (r z : Option S) {g : List Int} (u v : Option S) (hg : g.length ≤ 200) : tVal (pChain gLt gLt (pCon (.int 0)) (pCa gLen (aCons (pName 2) aNil)) (pCon (.int 61))) [r, z, some (.lst (dints g)), u, v] = some (decide (0 < g.length ∧ g.length < 61)) := by
  refine tVal_ok (b := decide (0 < g.length ∧ g.length < 61)) ?_
  have a : gLen [.lst (dints g)] = some (.fz (.int g.length)) := by
    show some (RV.fz (.int ((dints g).length : Nat))) = _
    rw [dints_length]
  show ((gLen [.lst (dints g)]).bind fun b => (gLt (.int 0) b.view).bind fun rr => rr.b?.bind fun q => if q = true then gLt b.view (.int 61) else some (.fz (.bl false))) = _
  rw [a]
  show (if decide ((0 : Int) < (g.length : Int)) = true then some (RV.fz (.bl (decide ((g.length : Int) < 61)))) else some (.fz (.bl false))) = _
  by_cases q : g.length = 0
  · rw [decide_eq_false (show ¬ (0 : Int) < (g.length : Int) by omega), if_neg (by decide), decide_eq_false (by omega)]
  · rw [decide_eq_true (show (0 : Int) < (g.length : Int) by omega), if_pos rfl]
    congr 3
    rw [decide_eq_decide]
    omega
theorem rd_scan {r : Int} (h1 : 1 ≤ r) (h2 : r ≤ 4) {z : Str} (n1 : z ≠ "1") : rd r z = (scan r [] z.cps.toList).bind fun g => if 0 < g.length ∧ g.length < 61 then some g else none := by
  rw [scan_eq r _ [] rfl]
  unfold rd
  rw [if_neg n1, List.nil_append]
  have oc : ∀ cs : List Nat, cs.all (okc r) = (cs.all inS && (cs.map val).all (letB r)) := by
    intro cs
    induction cs with
    | nil => rfl
    | cons c cs ih =>
      rw [List.all_cons, ih, okc_eq h1 h2, List.map_cons, List.all_cons, List.all_cons]
      cases inS c <;> cases letB r (val c) <;> cases cs.all inS <;> rfl
  have ez : z = "" ↔ z.cps.toList = [] := by
    constructor
    · rintro rfl; rfl
    · intro w
      obtain ⟨a⟩ := z
      obtain ⟨l⟩ := a
      cases w
      rfl
  rw [oc]
  unfold wordB
  cases q : z.cps.toList with
  | nil => 
    rw [if_pos (.inl (ez.mpr q))]
    rfl
  | cons c cs =>
    have nz : z ≠ "" := fun w => by rw [ez.mp w] at q; cases q
    cases a1 : (c :: cs).all inS with
    | false => rw [if_pos (.inr rfl), if_neg (by simp)]; rfl
    | true =>
      rw [if_neg (by rintro (w | w); exact nz w; cases w)]
      cases a2 : ((c :: cs).map val).all (letB r) with
      | false => rw [if_neg (by simp), if_neg (by simp)]; rfl
      | true =>
        cases a3 : redB ((c :: cs).map val) with
        | false => rw [if_neg (by simp), if_neg (by simp)]; rfl
        | true =>
          rw [if_pos (show (true && true) = true ∧ true = true from ⟨rfl, rfl⟩), Option.bind_some]
          have l : 0 < ((c :: cs).map val).length := by simp
          by_cases w : ((c :: cs).map val).length < 61
          · rw [if_pos (show _ = true by rw [decide_eq_true (show ((c :: cs).map val).length ≤ 60 by omega)]; rfl), if_pos ⟨l, w⟩]
          · rw [if_neg (show ¬ _ = true by rw [decide_eq_false (show ¬ ((c :: cs).map val).length ≤ 60 by omega)]; decide), if_neg (fun y => w y.2)]
theorem law_read_ok {r : Int} (h1 : 1 ≤ r) (h2 : r ≤ 4) {z : Str} (hz : okS z) : F__law_read [.d (.int r), .d (.str z)] = .ok (.d (optW (rd r z))) [some (.d (.int r)), some (.d (.str z))] := by
  have l1 : (z.cps.toList).length ≤ 200 := by rw [Array.length_toList]; exact hz.2
  have t1 : tVal (p2 gEq (pName 1) (pCon (.str "1"))) [some (.d (.int r)), some (.d (.str z)), none, none, none] = some (decide (z = "1")) := tVal_ok (by
    show gEq (.str z) (.str "1") = _
    rw [gEq_nice hz.1 rfl (Nat.zero_le _) (Nat.zero_le _), eqb_str])
  have b : ∃ x u v, B__law_read [some (.d (.int r)), some (.d (.str z)), none, none, none] = .rt (.d (optW (rd r z))) [some (.d (.int r)), some (.d (.str z)), x, u, v] := by
    by_cases c1 : z = "1"
    · rw [decide_eq_true c1] at t1
      unfold rd
      rw [if_pos c1]
      exact ⟨_, _, _, seq_rt ((if_t t1).trans rfl)⟩
    · rw [decide_eq_false c1] at t1
      rw [rd_scan h1 h2 c1]
      have q2 : B__law_read [some (.d (.int r)), some (.d (.str z)), none, none, none] = sSeq (sFor (iSeq (pName 1)) (gNm 3) B_rd) (sRet (mPP (pIf (tVal (pChain gLt gLt (pCon (.int 0)) (pCa gLen (aCons (pName 2) aNil)) (pCon (.int 61)))) (pCa gTuple (aCons (pName 2) aNil)) (pCon .non)))) [some (.d (.int r)), some (.d (.str z)), some (.lst (dints [])), none, none] :=
        (seq_nx ((if_f t1).trans rfl)).trans (seq_nx rfl)
      rw [q2]
      have fo : sFor (iSeq (pName 1)) (gNm 3) B_rd [some (.d (.int r)), some (.d (.str z)), some (.lst (dints [])), none, none] = forL (gNm 3) B_rd (z.cps.toList.map sg) [some (.d (.int r)), some (.d (.str z)), some (.lst (dints [])), none, none] := rfl
      rcases rd_loop h1 h2 (some (.d (.str z))) z.cps.toList [] none none (by simp) (by simpa using l1) with ⟨g, u', v', e1, e2, e3, e4⟩ | ⟨e1, g, u', v', e4⟩
      · rw [e1, Option.bind_some]
        have hg : g.length ≤ 200 := by rw [e3]; simpa using l1
        have ch := len_chain (some (.d (.int r))) (some (.d (.str z))) (g := g) u' v' hg
        refine ⟨_, _, _, (seq_nx (fo.trans e4)).trans (ret_fz ?_)⟩
        by_cases w : 0 < g.length ∧ g.length < 61
        · rw [if_pos w]
          rw [decide_eq_true w] at ch
          exact (pIf_t ch).trans rfl
        · rw [if_neg w]
          rw [decide_eq_false w] at ch
          exact (pIf_f ch).trans rfl
      · rw [e1]
        exact ⟨_, _, _, seq_rt (fo.trans e4)⟩
  unfold F__law_read fnF
  rw [show enter 5 [.d (.int r), .d (.str z)] = [some (.d (.int r)), some (.d (.str z)), none, none, none] from rfl]
  obtain ⟨x, u, v, b⟩ := b
  rw [b]
  rfl
end G13

set_option maxHeartbeats 4000000
namespace G13
open PySem PySem.Spec PyProof.Rows L2 DL
theorem read_word_some {r : Int} (h1 : 1 ≤ r) (h2 : r ≤ 4) {z : Str} (hz : okS z) {w : List Int} (e : rd r z = some w) : F_read_word [.d (.int r), .d (.str z)] = .ok (.d (.tup (dints w))) [some (.d (.int r)), some (.d (.str z))] := by
  have q := word_read_ok r hz
  rw [e] at q
  unfold optW at q
  simp [F_read_word, B_read_word, want_rank_ok r h1 h2, q, gIs, isi]
theorem read_word_none {r : Int} (h1 : 1 ≤ r) (h2 : r ≤ 4) {z : Str} (hz : okS z) (e : rd r z = none) : F_read_word [.d (.int r), .d (.str z)] = .ex ⟨"BadText", [("position", .non)]⟩ [some (.d (.int r)), some (.d (.str z))] := by
  have q := word_read_ok r hz
  rw [e] at q
  unfold optW at q
  simp [F_read_word, B_read_word, want_rank_ok r h1 h2, q, gIs, isi]
theorem read_word_odd {r : Int} (h1 : 1 ≤ r) (h2 : r ≤ 4) {y : D} (hy : isi .str y = false) : F_read_word [.d (.int r), .d y] = .ex ⟨"BadText", [("position", .non)]⟩ [some (.d (.int r)), some (.d y)] := by
  cases y with
  | str x => exact absurd hy (by show ¬ true = false; decide)
  | _ => simp [F_read_word, B_read_word, want_rank_ok r h1 h2, isi, gIs]
def hd : Option (List Int) → D
  | none => .lst [.str "bad", .non, .bl true]
  | some w => .lst [.str "told", .tup (dints w)]
theorem heard_ok {r : Int} (h1 : 1 ≤ r) (h2 : r ≤ 4) {z : Str} (hz : okS z) : F__law_heard [.d (.int r), .d (.str z)] = .ok (.d (hd (rd r z))) [some (.d (.int r)), some (.d (.str z))] := by
  cases e : rd r z with
  | none =>
    have q := read_word_none h1 h2 hz e
    simp [F__law_heard, B__law_heard, q, cmBadText, hd, show 3 ≤ SZ by decide, show 2 ≤ SZ by decide]
  | some w =>
    have q := read_word_some h1 h2 hz e
    simp [F__law_heard, B__law_heard, q, cmBadText, hd, show 3 ≤ SZ by decide, show 2 ≤ SZ by decide]
theorem heard_odd {r : Int} (h1 : 1 ≤ r) (h2 : r ≤ 4) {y : D} (hy : isi .str y = false) : F__law_heard [.d (.int r), .d y] = .ok (.d (hd none)) [some (.d (.int r)), some (.d y)] := by
  have q := read_word_odd h1 h2 hy
  simp [F__law_heard, B__law_heard, q, cmBadText, hd, show 3 ≤ SZ by decide, show 2 ≤ SZ by decide]
end G13

set_option maxHeartbeats 4000000
namespace G13
open PySem PySem.Spec PyProof.Rows L2 DL
/-! ### _law_bent -/
def okB (z : Str) (n : Nat) : Prop := (∀ c ∈ z.cps.toList, c < 1114112) ∧ z.length ≤ n
theorem okB.nice {z : Str} {n : Nat} (h : okB z n) : (D.str z).nice = true := by
  show (z.cps.toList.all fun c => decide (c < 1114112)) = true
  rw [List.all_eq_true]
  exact fun c hc => decide_eq_true (h.1 c hc)
theorem okB.okS {z : Str} {n : Nat} (h : okB z n) (hn : n ≤ 200) : okS z := ⟨h.nice, Nat.le_trans h.2 hn⟩
theorem okB.mono {z : Str} {n m : Nat} (h : okB z n) (hn : n ≤ m) : okB z m := ⟨h.1, Nat.le_trans h.2 hn⟩
theorem okB.cut {z : Str} {n : Nat} (h : okB z n) (lo hi : Option Int) : okB (cutS z lo hi) n := by
  unfold cutS okB
  refine ⟨fun c hc => h.1 c ?_, ?_⟩
  · exact List.mem_of_mem_drop (List.mem_of_mem_take (by simpa using hc))
  · show (List.toArray _).size ≤ n
    rw [List.size_toArray, List.length_take, List.length_drop]
    have := h.2
    have e : z.cps.toList.length = z.length := Array.length_toList
    omega
theorem okB.add {x y : Str} {n m : Nat} (h : okB x n) (h2 : okB y m) : okB (x ++ y) (n + m) := by
  obtain ⟨x⟩ := x
  obtain ⟨y⟩ := y
  refine ⟨fun c hc => ?_, ?_⟩
  · have : c ∈ (x ++ y).toList := hc
    rw [Array.toList_append] at this
    rcases List.mem_append.mp this with q | q
    · exact h.1 c q
    · exact h2.1 c q
  · show (x ++ y).size ≤ _
    rw [Array.size_append]
    exact Nat.add_le_add h.2 h2.2
theorem okB.rev {z : Str} {n : Nat} (h : okB z n) : okB (revS z) n := by
  refine ⟨fun c hc => h.1 c ?_, ?_⟩
  · have : c ∈ z.cps.toList.reverse := hc
    exact List.mem_reverse.mp this
  · show (List.toArray _).size ≤ n
    rw [List.size_toArray, List.length_reverse, Array.length_toList]
    exact h.2
def ssL : List D := [.str "a", .str "A", .str "b", .str "B", .str "c", .str "D", .str "1", .str " ", .str "e", .str "", .str "0", .str "ab", .str "x"]
theorem ss_ok : ∀ x ∈ ssL, ∃ s, x = .str s ∧ okB s 2 := by
  have k : ∀ s : Str, (s.cps.toList.all fun c => decide (c < 1114112)) = true → s.length ≤ 2 → ∃ t, D.str s = .str t ∧ okB t 2 := fun s a b => ⟨s, rfl, fun c hc => of_decide_eq_true (List.all_eq_true.mp a c hc), b⟩
  intro x hx
  simp only [ssL, List.mem_cons, List.not_mem_nil, or_false] at hx
  rcases hx with rfl | rfl | rfl | rfl | rfl | rfl | rfl | rfl | rfl | rfl | rfl | rfl | rfl <;> exact k _ (by decide) (by decide)
def bentL (t s : Str) (k : Int) : List D := [.str (cutS t none (some k) ++ s ++ cutS t (some k) none), .str (cutS t none (some k) ++ s ++ cutS t (some (k + 1)) none), .str (cutS t none (some k) ++ cutS t (some (k + 1)) none), .str (revS t), .str (t ++ t)]
theorem bentL_ok {t s : Str} {k : Int} (ht : okB t 60) (hs : okB s 2) : ∀ x ∈ bentL t s k, ∃ z, x = .str z ∧ okB z 122 := by
  intro x hx
  simp only [bentL, List.mem_cons, List.not_mem_nil, or_false] at hx
  rcases hx with rfl | rfl | rfl | rfl | rfl
  · exact ⟨_, rfl, ((ht.cut _ _).add hs).add (ht.cut _ _)⟩
  · exact ⟨_, rfl, ((ht.cut _ _).add hs).add (ht.cut _ _)⟩
  · exact ⟨_, rfl, ((ht.cut _ _).add (ht.cut _ _)).mono (by decide)⟩
  · exact ⟨_, rfl, ht.rev.mono (by decide)⟩
  · exact ⟨_, rfl, (ht.add ht).mono (by decide)⟩
theorem bent_ok {p : List D} {t : Str} (hp : Pot p) (ht : okB t 60) : ∃ (z : Str) (p' : List D), Pot p' ∧ okB z 122 ∧ F__law_bent [.lst p, .d (.str t)] = .ok (.d (.str z)) [some (.lst p'), some (.d (.str t))] := by
  have hl := ht.2
  obtain ⟨k, pa, hp1, k0, k1, e1⟩ := draw_ok hp ((t.length : Int) + 1) (by omega) (by omega)
  obtain ⟨x, pb, hp2, hx, e2⟩ := pick_ok hp1 ssL (by decide) (by decide)
  obtain ⟨s, rfl, hs⟩ := ss_ok x hx
  obtain ⟨y, pc, hp3, hy, e3⟩ := pick_ok hp2 (bentL t s k) (by show 0 < 5; decide) (by show 5 < 1000; decide)
  obtain ⟨z, rfl, hz⟩ := bentL_ok ht hs y hy
  refine ⟨z, pc, hp3, hz, ?_⟩
  have sz : ∀ n : Nat, n ≤ 200 → n ≤ SZ := fun n h => by unfold SZ; omega
  have a1 := sz _ (Nat.le_trans ht.2 (by decide))
  have c1 := ht.cut none (some k)
  have c2 := ht.cut (some k) none
  have c3 := ht.cut (some (k + 1)) none
  have g1 : DL.gAdd (.str (cutS t none (some k))) (.str s) = some (.fz (.str (cutS t none (some k) ++ s))) := if_pos (sz _ (by have := c1.2; have := hs.2; omega))
  have g2 : DL.gAdd (.str (cutS t none (some k) ++ s)) (.str (cutS t (some k) none)) = some (.fz (.str (cutS t none (some k) ++ s ++ cutS t (some k) none))) := if_pos (sz _ (by have := (c1.add hs).2; have := c2.2; omega))
  have g3 : DL.gAdd (.str (cutS t none (some k) ++ s)) (.str (cutS t (some (k + 1)) none)) = some (.fz (.str (cutS t none (some k) ++ s ++ cutS t (some (k + 1)) none))) := if_pos (sz _ (by have := (c1.add hs).2; have := c3.2; omega))
  have g4 : DL.gAdd (.str (cutS t none (some k))) (.str (cutS t (some (k + 1)) none)) = some (.fz (.str (cutS t none (some k) ++ cutS t (some (k + 1)) none))) := if_pos (sz _ (by have := c1.2; have := c3.2; omega))
  have g5 : DL.gAdd (.str t) (.str t) = some (.fz (.str (t ++ t))) := if_pos (sz _ (by omega))
  have q1 : sSet 2 (mFd 2 F__law_draw (arBw 0 (arFz (mPP (p2 DL.gAdd (pCa gLen (aCons (pName 1) aNil)) (pCon (.int 1)))) arNil))) [some (.lst p), some (.d (.str t)), none, none] = .nx [some (.lst pa), some (.d (.str t)), some (.d (.int k)), none] := by
    simp [e1, a1]
  have q2 : sSet 3 (mFd 2 F__law_pick (arBw 0 (arFz (mPP (pLst (aCons (pCon (.str "a")) (aCons (pCon (.str "A")) (aCons (pCon (.str "b")) (aCons (pCon (.str "B")) (aCons (pCon (.str "c")) (aCons (pCon (.str "D")) (aCons (pCon (.str "1")) (aCons (pCon (.str " ")) (aCons (pCon (.str "e")) (aCons (pCon (.str "")) (aCons (pCon (.str "0")) (aCons (pCon (.str "ab")) (aCons (pCon (.str "x")) aNil))))))))))))))) arNil))) [some (.lst pa), some (.d (.str t)), some (.d (.int k)), none] = .nx [some (.lst pb), some (.d (.str t)), some (.d (.int k)), some (.d (.str s))] := by
    unfold ssL at e2
    simp [e2, show 13 ≤ SZ by decide]
  have q3 : B__law_bent [some (.lst p), some (.d (.str t)), none, none] = .rt (.d (.str z)) [some (.lst pc), some (.d (.str t)), some (.d (.int k)), some (.d (.str s))] := by
    refine (seq_nx q1).trans ((seq_nx q2).trans ?_)
    unfold bentL at e3
    simp only [pLst, sRet, mFd, arBw, arFz, mPP, pSl, p2, pName, pRev, oNone, oSome, aCons, aNil, pCon, List.getElem?_cons_zero, List.getElem?_cons_succ, gSl]
    simp [a1, show DL.gAdd (.int k) (.int 1) = some (.fz (.int (k + 1))) from rfl, g1, g2, g3, g4, g5, e3, show 5 ≤ SZ by decide, -DL.gAdd]
  unfold F__law_bent fnF
  rw [show lkOk [0] 0 [.lst p, .d (.str t)] = true from rfl, if_pos rfl, show enter 4 [.lst p, .d (.str t)] = [some (.lst p), some (.d (.str t)), none, none] from rfl, q3]
  rfl
end G13

set_option maxHeartbeats 4000000
namespace G13
open PySem PySem.Spec PyProof.Rows L2 DL
/-! ### what is told is read back -/
theorem cd_ins {i : Int} (h : Let 4 i) : inS (cd i) = true ∧ val (cd i) = i := by
  rcases let_cases h with rfl | rfl | rfl | rfl | rfl | rfl | rfl | rfl <;> decide
theorem map_cd {w : List Int} (h : ∀ i ∈ w, Let 4 i) : (w.map cd).all inS = true ∧ (w.map cd).map val = w := by
  induction w with
  | nil => exact ⟨rfl, rfl⟩
  | cons i w ih =>
    obtain ⟨a, b⟩ := ih fun j hj => h j (List.mem_cons_of_mem _ hj)
    obtain ⟨c, d⟩ := cd_ins (h i List.mem_cons_self)
    exact ⟨by rw [List.map_cons, List.all_cons, c, a]; rfl, by rw [List.map_cons, List.map_cons, d, b]⟩
theorem rd_txt {r : Int} {w : List Int} (h2 : r ≤ 4) (h : GW r w) (hl : w.length ≤ 60) : rd r (txt w) = some w := by
  by_cases e : w = []
  · subst e
    rfl
  · have hw : ∀ i ∈ w, Let 4 i := fun i hi => let_up h2 (h.2 i hi)
    obtain ⟨a, b⟩ := map_cd hw
    have t : txt w = ⟨(w.map cd).toArray⟩ := if_neg e
    have tl : (txt w).cps.toList = w.map cd := by rw [t]
    have n1 : txt w ≠ "1" := fun z => by
      rw [z] at tl
      rw [← tl] at a
      revert a
      decide
    have n2 : txt w ≠ "" := fun z => by
      rw [z] at tl
      have : (w.map cd).length = 0 := by rw [← tl]; rfl
      rw [List.length_map] at this
      exact e (List.length_eq_zero_iff.mp this)
    unfold rd
    rw [if_neg n1, tl, a, b, if_neg (by rintro (q | q); exact n2 q; cases q), if_pos (gw_wordB h hl)]
theorem cd_lt {i : Int} (h : Let 4 i) : cd i < 1114112 := by
  rcases let_cases h with rfl | rfl | rfl | rfl | rfl | rfl | rfl | rfl <;> decide
theorem txt_okB {w : List Int} (h : ∀ i ∈ w, Let 4 i) (hl : w.length ≤ 60) : okB (txt w) 60 := by
  by_cases e : w = []
  · subst e
    exact ⟨by decide, by decide⟩
  · have t : txt w = ⟨(w.map cd).toArray⟩ := if_neg e
    rw [t]
    refine ⟨fun c hc => ?_, ?_⟩
    · obtain ⟨i, hi, rfl⟩ := List.mem_map.mp (show c ∈ w.map cd from hc)
      exact cd_lt (h i hi)
    · show (List.toArray _).size ≤ 60
      rw [List.size_toArray, List.length_map]
      exact hl
end G13

set_option maxHeartbeats 4000000
namespace G13
open PySem PySem.Spec PyProof.Rows L2 DL
/-! ### _law_right -/
theorem rd_small {r : Int} {z : Str} {w : List Int} (hz : okS z) (e : rd r z = some w) : (∀ i ∈ w, Let 4 i) ∧ w.length ≤ 200 := by
  unfold rd at e
  split at e
  · cases e
    exact ⟨fun _ h => (nomatch h), by decide⟩
  · split at e
    · cases e
    · split at e
      · cases e
        refine ⟨fun i hi => by obtain ⟨c, _, rfl⟩ := List.mem_map.mp hi; exact val_let c, ?_⟩
        rw [List.length_map, Array.length_toList]
        exact hz.2
      · cases e
theorem tup_nice {w : List Int} (h : ∀ i ∈ w, Let 4 i) : (D.tup (dints w)).nice = true := nice_dints fun j hj => natAbs_let (Int.le_refl 4) (h j hj)
theorem hd_repr {r : Int} {z : Str} (hz : okS z) : (hd (rd r z)).nice = true ∧ gRepr [hd (rd r z)] = some (.fz (.str (hd (rd r z)).py.shown)) := by
  cases e : rd r z with
  | none => exact ⟨by decide, repr_lst (by decide) (by decide) (by decide)⟩
  | some w =>
    obtain ⟨h1, h2⟩ := rd_small hz e
    have n := tup_nice h1
    have n2 : niceL [.str "told", .tup (dints w)] = true := by
      show ((D.str "told").nice && ((D.tup (dints w)).nice && true)) = true
      rw [n]
      decide
    refine ⟨n2, repr_lst n2 ?_ ?_⟩
    · show max 0 (max (depL (dints w) + 1) 0) ≤ 60
      rw [dep_dints]
      decide
    · show (4 + 1 + (sizeL (dints w) + 1 + 0)) ≤ 8000
      rw [size_dints]
      omega
abbrev P_heard : FP := pCa gRepr (aCons (pFd F__law_heard (aCons (pName 1) (aCons (pName 5) aNil))) aNil)
abbrev P_want : FP := pCa gRepr (aCons (pIf (tVal (p2 gIs (pName 6) (pCon .non))) (pLst (aCons (pCon (.str "bad")) (aCons (pCon .non) (aCons (pCon (.bl true)) aNil)))) (pLst (aCons (pCon (.str "told")) (aCons (pName 6) aNil)))) aNil)
abbrev B_late : FS := sSeq (sSet 6 (mPP (pFd F__law_read (aCons (pName 1) (aCons (pName 5) aNil))))) (sIf (tMT (tVal (p2 gNe P_heard P_want))) (sRet (mPP (pCon (.bl false)))) sNil)
theorem late_ok {r : Int} (h1 : 1 ≤ r) (h2 : r ≤ 4) {z : Str} (hz : okS z) (p i w t f a b : Option S) :
    B_late [p, some (.d (.int r)), i, w, t, some (.d (.str z)), f, a, b] = .nx [p, some (.d (.int r)), i, w, t, some (.d (.str z)), some (.d (optW (rd r z))), a, b] := by
  have q1 : pFd F__law_read (aCons (pName 1) (aCons (pName 5) aNil)) [p, some (.d (.int r)), i, w, t, some (.d (.str z)), f, a, b] = some (.fz (optW (rd r z))) :=
    (pFd_ok (rs := [.fz (.int r), .fz (.str z)]) rfl).trans (callP_fz (law_read_ok h1 h2 hz) (.inl rfl))
  obtain ⟨n, hr⟩ := hd_repr (r := r) hz
  have q2 : P_heard [p, some (.d (.int r)), i, w, t, some (.d (.str z)), some (.d (optW (rd r z))), a, b] = some (.fz (.str (hd (rd r z)).py.shown)) :=
    (pCa_ok (aCons_ok (rs := []) ((pFd_ok (rs := [.fz (.int r), .fz (.str z)]) rfl).trans (callP_fz (heard_ok h1 h2 hz) (.inl rfl))) rfl)).trans hr
  have q3 : P_want [p, some (.d (.int r)), i, w, t, some (.d (.str z)), some (.d (optW (rd r z))), a, b] = some (.fz (.str (hd (rd r z)).py.shown)) := by
    revert hr
    cases rd r z with
    | none => exact fun hr => (pCa_ok (aCons_ok (rs := []) (r := .fr [.str "bad", .non, .bl true]) ((pIf_t rfl).trans rfl) rfl)).trans hr
    | some v => exact fun hr => (pCa_ok (aCons_ok (rs := []) (r := .fr [.str "told", .tup (dints v)]) ((pIf_f rfl).trans rfl) rfl)).trans hr
  refine (seq_nx (set_fz q1 (by show 6 < 9; decide))).trans ((if_f (tVal_ok ((p2_ok q2 q3).trans (shown_ne_same n)))).trans rfl)
theorem late_loop {r : Int} (h1 : 1 ≤ r) (h2 : r ≤ 4) (p i w t a b : Option S) : ∀ (ds : List D) (z f : Option S), (∀ x ∈ ds, ∃ s, x = .str s ∧ okS s) →
    ∃ z' f', forL (gNm 5) B_late ds [p, some (.d (.int r)), i, w, t, z, f, a, b] = .nx [p, some (.d (.int r)), i, w, t, z', f', a, b]
  | [], z, f, _ => ⟨z, f, rfl⟩
  | x :: ds, z, f, h => by
    obtain ⟨s, rfl, hs⟩ := h x List.mem_cons_self
    obtain ⟨z', f', e⟩ := late_loop h1 h2 p i w t a b ds (some (.d (.str s))) (some (.d (optW (rd r s)))) fun y hy => h y (List.mem_cons_of_mem _ hy)
    refine ⟨z', f', ?_⟩
    have step : forL (gNm 5) B_late (.str s :: ds) [p, some (.d (.int r)), i, w, t, z, f, a, b] = (match B_late [p, some (.d (.int r)), i, w, t, some (.d (.str s)), f, a, b] with
      | .nx e2 => forL (gNm 5) B_late ds e2
      | .ct e2 => forL (gNm 5) B_late ds e2
      | .bk e2 => .nx e2
      | o => o) := rfl
    rw [step, late_ok h1 h2 hs]
    exact e
abbrev M_bent : FM := mFd 2 F__law_bent (arBw 0 (arFz (mPP (pName 4)) arNil))
theorem bents {r : Int} {tx : Str} (ht : okB tx 60) (i w z f b : Option S) : ∀ (ds : List D) {p : List D}, Pot p →
    ∃ (xs : List D) (p' : List D), Pot p' ∧ xs.length = ds.length ∧ (∀ x ∈ xs, ∃ s, x = .str s ∧ okB s 122) ∧
      lcM (gNm 7) tAll M_bent [7] ds [some (.lst p), some (.d (.int r)), i, w, some (.d (.str tx)), z, f, none, b] = .ok xs [some (.lst p'), some (.d (.int r)), i, w, some (.d (.str tx)), z, f, none, b]
  | [], p, hp => ⟨[], p, hp, rfl, fun _ h => (nomatch h), rfl⟩
  | d :: ds, p, hp => by
    obtain ⟨s, p1, hp1, hs, e1⟩ := bent_ok hp ht
    obtain ⟨xs, p', hp', hl, hx, e⟩ := bents (r := r) ht i w z f b ds hp1
    refine ⟨.str s :: xs, p', hp', by rw [List.length_cons, List.length_cons, hl], fun x hx' => ?_, ?_⟩
    · rcases List.mem_cons.mp hx' with rfl | q
      · exact ⟨s, rfl, hs⟩
      · exact hx x q
    · have m : M_bent [some (.lst p), some (.d (.int r)), i, w, some (.d (.str tx)), z, f, some (.d d), b] = .ok (.d (.str s)) [some (.lst p1), some (.d (.int r)), i, w, some (.d (.str tx)), z, f, some (.d d), b] := by
        simp [e1]
      have step : lcM (gNm 7) tAll M_bent [7] (d :: ds) [some (.lst p), some (.d (.int r)), i, w, some (.d (.str tx)), z, f, none, b] = (match M_bent [some (.lst p), some (.d (.int r)), i, w, some (.d (.str tx)), z, f, some (.d d), b] with
          | .ok s e2 => OL.cons s.view (lcM (gNm 7) tAll M_bent [7] ds (wipeE e2 [7]))
          | _ => .stuck) := rfl
      rw [step, m]
      show OL.cons (.str s) (lcM (gNm 7) tAll M_bent [7] ds [some (.lst p1), some (.d (.int r)), i, w, some (.d (.str tx)), z, f, none, b]) = _
      rw [e]
      rfl
end G13

set_option maxHeartbeats 4000000
namespace G13
open PySem PySem.Spec PyProof.Rows L2 DL
def fixL : List D := [.str "", .str "1", .str "a", .str "aA", .str (repS "A" 60), .str (repS "A" 61), .str "ab", .str "d"]
theorem fix_ok : ∀ x ∈ fixL, ∃ s, x = .str s ∧ okB s 122 := by
  have k : ∀ s : Str, (s.cps.toList.all fun c => decide (c < 1114112)) = true → s.length ≤ 122 → ∃ t, D.str s = .str t ∧ okB t 122 := fun s a b => ⟨s, rfl, fun c hc => of_decide_eq_true (List.all_eq_true.mp a c hc), b⟩
  intro x hx
  simp only [fixL, List.mem_cons, List.not_mem_nil, or_false] at hx
  rcases hx with rfl | rfl | rfl | rfl | rfl | rfl | rfl | rfl <;> exact k _ (by decide +kernel) (by decide +kernel)
abbrev M_fix : FM := mPP (pLst (aCons (pCon (.str "")) (aCons (pCon (.str "1")) (aCons (pCon (.str "a")) (aCons (pCon (.str "aA")) (aCons (p2 DL.gMul (pCon (.str "A")) (pCon (.int 60))) (aCons (p2 DL.gMul (pCon (.str "A")) (pCon (.int 61))) (aCons (pCon (.str "ab")) (aCons (pCon (.str "d")) aNil)))))))))
theorem fix_run (e : En) : M_fix e = .ok (.lst fixL) e := by
  have g1 : DL.gMul (.str "A") (.int 60) = some (.fz (.str (repS "A" 60))) := by
    unfold DL.gMul
    exact if_pos (by decide)
  have g2 : DL.gMul (.str "A") (.int 61) = some (.fz (.str (repS "A" 61))) := by
    unfold DL.gMul
    exact if_pos (by decide)
  have z : (8 : Nat) ≤ SZ := by decide
  unfold M_fix
  have h : pLst (aCons (pCon (.str "")) (aCons (pCon (.str "1")) (aCons (pCon (.str "a")) (aCons (pCon (.str "aA")) (aCons (p2 DL.gMul (pCon (.str "A")) (pCon (.int 60))) (aCons (p2 DL.gMul (pCon (.str "A")) (pCon (.int 61))) (aCons (pCon (.str "ab")) (aCons (pCon (.str "d")) aNil)))))))) e = some (.fr fixL) := by
    have m1 : p2 DL.gMul (pCon (.str "A")) (pCon (.int 60)) e = some (.fz (.str (repS "A" 60))) := (p2_ok (a := .fz (.str "A")) (b := .fz (.int 60)) rfl rfl).trans g1
    have m2' : p2 DL.gMul (pCon (.str "A")) (pCon (.int 61)) e = some (.fz (.str (repS "A" 61))) := (p2_ok (a := .fz (.str "A")) (b := .fz (.int 61)) rfl rfl).trans g2
    have a := aCons_ok (fs := aNil) (fa := pCon (.str "d")) (e := e) (rs := []) rfl rfl
    have a := aCons_ok (fa := pCon (.str "ab")) (e := e) rfl a
    have a := aCons_ok m2' a
    have a := aCons_ok m1 a
    have a := aCons_ok (fa := pCon (.str "aA")) (e := e) rfl a
    have a := aCons_ok (fa := pCon (.str "a")) (e := e) rfl a
    have a := aCons_ok (fa := pCon (.str "1")) (e := e) rfl a
    have a := aCons_ok (fa := pCon (.str "")) (e := e) rfl a
    unfold pLst
    rw [a]
    rfl
  unfold mPP
  rw [h]
  rfl
abbrev M_bents : FM := mLc [7] (iRg1 (aCons (pCon (.int 8)) aNil)) (gNm 7) tAll M_bent
abbrev S_late : FS := sForM (m2 DL.gAdd M_bents M_fix) (gNm 5) B_late
theorem late_all {r : Int} (h1 : 1 ≤ r) (h2 : r ≤ 4) {p : List D} (hp : Pot p) {tx : Str} (ht : okB tx 60) (i w z f b : Option S) :
    ∃ p' z' f', Pot p' ∧ S_late [some (.lst p), some (.d (.int r)), i, w, some (.d (.str tx)), z, f, none, b] = .nx [some (.lst p'), some (.d (.int r)), i, w, some (.d (.str tx)), z', f', none, b] := by
  obtain ⟨xs, p', hp', hl, hx, e⟩ := bents (r := r) ht i w z f b (rangeD 0 8) hp
  have hl8 : xs.length = 8 := hl
  have m : M_bents [some (.lst p), some (.d (.int r)), i, w, some (.d (.str tx)), z, f, none, b] = .ok (.lst xs) [some (.lst p'), some (.d (.int r)), i, w, some (.d (.str tx)), z, f, none, b] := by
    show (match lcM (gNm 7) tAll M_bent [7] (rangeD 0 8) [some (.lst p), some (.d (.int r)), i, w, some (.d (.str tx)), z, f, none, b] with
      | .ok xs e' => if xs.length ≤ SZ then Out.ok (.lst xs) (unw [7] [some (.lst p), some (.d (.int r)), i, w, some (.d (.str tx)), z, f, none, b] e') else .stuck
      | _ => .stuck) = _
    rw [e]
    show (if xs.length ≤ SZ then Out.ok (.lst xs) _ else .stuck) = _
    rw [if_pos (by rw [hl8]; decide)]
    rfl
  have g : DL.gAdd (.lst xs) (.lst fixL) = some (.fr (xs ++ fixL)) := if_pos (by rw [hl8]; decide)
  have mm : m2 DL.gAdd M_bents M_fix [some (.lst p), some (.d (.int r)), i, w, some (.d (.str tx)), z, f, none, b] = .ok (.lst (xs ++ fixL)) [some (.lst p'), some (.d (.int r)), i, w, some (.d (.str tx)), z, f, none, b] := by
    unfold m2
    rw [m]
    show Out.bind (M_fix [some (.lst p'), some (.d (.int r)), i, w, some (.d (.str tx)), z, f, none, b]) (fun b e2 => rvO (DL.gAdd (.lst xs) b) e2) = _
    rw [fix_run]
    show rvO (DL.gAdd (.lst xs) (.lst fixL)) _ = _
    rw [g]
    rfl
  obtain ⟨z', f', e2⟩ := late_loop h1 h2 (some (.lst p')) i w (some (.d (.str tx))) none b (xs ++ fixL) z f fun x hx' => by
    rcases List.mem_append.mp hx' with q | q
    · obtain ⟨s, e, hs⟩ := hx x q
      exact ⟨s, e, hs.okS (by decide)⟩
    · obtain ⟨s, e, hs⟩ := fix_ok x q
      exact ⟨s, e, hs.okS (by decide)⟩
  refine ⟨p', z', f', hp', ?_⟩
  unfold S_late sForM
  rw [mm]
  exact e2
/-! ### one turn -/
abbrev S_word : FS := sSet 3 (mFd 3 F__law_word (arBw 0 (arFz (mPP (pName 1)) (arFz (mFd 2 F__law_draw (arBw 0 (arFz (mFd 2 F__law_pick (arBw 0 (arFz (mPP (pLst (aCons (pCon (.int 4)) (aCons (pCon (.int 16)) (aCons (pCon (.int 61)) aNil))))) arNil))) arNil))) arNil))))
theorem sword_ok {r : Int} (h1 : 1 ≤ r) (h2 : r ≤ 4) {p : List D} (hp : Pot p) (i w t z f a b : Option S) :
    ∃ (p' : List D) (v : List Int), Pot p' ∧ GW r v ∧ v.length ≤ 60 ∧ S_word [some (.lst p), some (.d (.int r)), i, w, t, z, f, a, b] = .nx [some (.lst p'), some (.d (.int r)), i, some (.d (.tup (dints v))), t, z, f, a, b] := by
  obtain ⟨x, p1, hp1, hx, e1⟩ := pick_ok hp [.int 4, .int 16, .int 61] (by decide) (by decide)
  have : ∃ n : Int, x = .int n ∧ 0 < n ∧ n ≤ 61 := by
    simp only [List.mem_cons, List.not_mem_nil, or_false] at hx
    rcases hx with rfl | rfl | rfl
    · exact ⟨4, rfl, by decide, by decide⟩
    · exact ⟨16, rfl, by decide, by decide⟩
    · exact ⟨61, rfl, by decide, by decide⟩
  obtain ⟨n, rfl, n0, n1⟩ := this
  obtain ⟨m, p2', hp2, m0, m1, e2⟩ := draw_ok hp1 n n0 (by omega)
  obtain ⟨p3, v, hp3, hv, hl, e3⟩ := word_ok hp2 h1 h2 m0 (by omega)
  refine ⟨p3, v, hp3, hv, by omega, ?_⟩
  simp [e1, e2, e3, show 3 ≤ SZ by decide]
abbrev P_text : FP := pFd F__law_text (aCons (pName 3) aNil)
abbrev P_a1 : FP := pCa gRepr (aCons (pLst (aCons (pFd F_word_text (aCons (pName 1) (aCons (pName 3) aNil))) (aCons (pFdK F_word_text (permG 0 2 [1, 0]) 2 aNil (aCons (pName 3) (aCons (pName 1) aNil))) aNil))) aNil)
abbrev P_a2 : FP := pCa gRepr (aCons (pLst (aCons (pName 4) (aCons (pName 4) aNil))) aNil)
abbrev P_b1 : FP := pCa gRepr (aCons (pLst (aCons (pFd F_read_word (aCons (pName 1) (aCons (pName 4) aNil))) (aCons (pFdK F_read_word (permG 0 2 [1, 0]) 2 aNil (aCons (pName 4) (aCons (pName 1) aNil))) (aCons (pFd F_word_text (aCons (pCon (.int 4)) (aCons (pName 3) aNil))) aNil)))) aNil)
abbrev P_b2 : FP := pCa gRepr (aCons (pLst (aCons (pName 3) (aCons (pName 3) (aCons (pName 4) aNil)))) aNil)
abbrev B_turn : FS := sSeq S_word (sSeq (sSet 4 (mPP P_text)) (sSeq (sIf (tMT (tVal (p2 gNe P_a1 P_a2))) (sRet (mPP (pCon (.bl false)))) sNil) (sSeq (sIf (tMT (tVal (p2 gNe P_b1 P_b2))) (sRet (mPP (pCon (.bl false)))) sNil) S_late)))
theorem pFdK_ok {F : List S → Out} {g : {α : Type} → List α → List α → List α} {n : Nat} {fs fk : FA} {e : En} {rs qs us : List RV} (h : fs e = some rs) (h2 : fk e = some qs) (h3 : g rs qs = us) (h4 : us.length = n) : pFdK F g n fs fk e = callP F us := by
  unfold pFdK
  rw [h, Option.bind_some, h2, Option.bind_some]
  show (if (g rs qs).length = n then callP F (g rs qs) else none) = _
  rw [h3, if_pos h4]
theorem turn_ok {r : Int} (h1 : 1 ≤ r) (h2 : r ≤ 4) {p : List D} (hp : Pot p) (i w t z f b : Option S) :
    ∃ p' w' t' z' f', Pot p' ∧ B_turn [some (.lst p), some (.d (.int r)), i, w, t, z, f, none, b] = .nx [some (.lst p'), some (.d (.int r)), i, w', t', z', f', none, b] := by
  obtain ⟨p1, v, hp1, hv, hl, e1⟩ := sword_ok h1 h2 hp i w t z f none b
  have hv4 : ∀ i ∈ v, Let 4 i := fun i hi => let_up h2 (hv.2 i hi)
  have ht := txt_okB hv4 hl
  have hw : wordB r v = true := gw_wordB hv hl
  have hw4 : wordB 4 v = true := gw_wordB (r := 4) ⟨hv.1, hv4⟩ hl
  obtain ⟨p2', z', f', hp2, e5⟩ := late_all h1 h2 hp1 ht i (some (.d (.tup (dints v)))) z f b
  have wt := word_text_ok h1 h2 hv4 (Nat.le_trans hl (by decide)) hw
  have wt4 := word_text_ok (r := 4) (by decide) (by decide) hv4 (Nat.le_trans hl (by decide)) hw4
  have rw' := read_word_some h1 h2 (ht.okS (by decide)) (rd_txt h2 hv hl)
  have q4 : P_text [some (.lst p1), some (.d (.int r)), i, some (.d (.tup (dints v))), t, z, f, none, b] = some (.fz (.str (txt v))) :=
    (pFd_ok (rs := [.fz (.tup (dints v))]) rfl).trans (callP_fz (law_text_ok hv4 (Nat.le_trans hl (by decide))) (.inl rfl))
  have nt := ht.nice
  have nv := tup_nice hv4
  have nA : niceL [.str (txt v), .str (txt v)] = true := by
    show ((D.str (txt v)).nice && ((D.str (txt v)).nice && true)) = true
    rw [nt]
    rfl
  have nB : niceL [.tup (dints v), .tup (dints v), .str (txt v)] = true := by
    show ((D.tup (dints v)).nice && ((D.tup (dints v)).nice && ((D.str (txt v)).nice && true))) = true
    rw [nt, nv]
    rfl
  have rA : gRepr [.lst [.str (txt v), .str (txt v)]] = some (.fz (.str (D.lst [.str (txt v), .str (txt v)]).py.shown)) := repr_lst nA (by show max 0 (max 0 0) ≤ 60; decide) (by
    show ((txt v).length + 1 + ((txt v).length + 1 + 0)) ≤ 8000
    have := ht.2
    omega)
  have rB : gRepr [.lst [.tup (dints v), .tup (dints v), .str (txt v)]] = some (.fz (.str (D.lst [.tup (dints v), .tup (dints v), .str (txt v)]).py.shown)) := repr_lst nB (by
      show max (depL (dints v) + 1) (max (depL (dints v) + 1) (max 0 0)) ≤ 60
      rw [dep_dints]
      decide) (by
    show (sizeL (dints v) + 1 + (sizeL (dints v) + 1 + ((txt v).length + 1 + 0))) ≤ 8000
    rw [size_dints]
    have := ht.2
    omega)
  have a1 : P_a1 [some (.lst p1), some (.d (.int r)), i, some (.d (.tup (dints v))), some (.d (.str (txt v))), z, f, none, b] = some (.fz (.str (D.lst [.str (txt v), .str (txt v)]).py.shown)) := by
    have x1 : pFd F_word_text (aCons (pName 1) (aCons (pName 3) aNil)) [some (.lst p1), some (.d (.int r)), i, some (.d (.tup (dints v))), some (.d (.str (txt v))), z, f, none, b] = some (.fz (.str (txt v))) :=
      (pFd_ok (rs := [.fz (.int r), .fz (.tup (dints v))]) rfl).trans (callP_fz wt (.inl rfl))
    have x2 : pFdK F_word_text (permG 0 2 [1, 0]) 2 aNil (aCons (pName 3) (aCons (pName 1) aNil)) [some (.lst p1), some (.d (.int r)), i, some (.d (.tup (dints v))), some (.d (.str (txt v))), z, f, none, b] = some (.fz (.str (txt v))) :=
      (pFdK_ok (rs := []) (qs := [.fz (.tup (dints v)), .fz (.int r)]) (us := [.fz (.int r), .fz (.tup (dints v))]) rfl rfl rfl rfl).trans (callP_fz wt (.inl rfl))
    have x3 : pLst (aCons (pFd F_word_text (aCons (pName 1) (aCons (pName 3) aNil))) (aCons (pFdK F_word_text (permG 0 2 [1, 0]) 2 aNil (aCons (pName 3) (aCons (pName 1) aNil))) aNil)) [some (.lst p1), some (.d (.int r)), i, some (.d (.tup (dints v))), some (.d (.str (txt v))), z, f, none, b] = some (.fr [.str (txt v), .str (txt v)]) := by
      unfold pLst
      rw [aCons_ok x1 (aCons_ok (rs := []) x2 rfl)]
      rfl
    exact (pCa_ok (aCons_ok (rs := []) x3 rfl)).trans rA
  have a2 : P_a2 [some (.lst p1), some (.d (.int r)), i, some (.d (.tup (dints v))), some (.d (.str (txt v))), z, f, none, b] = some (.fz (.str (D.lst [.str (txt v), .str (txt v)]).py.shown)) :=
    (pCa_ok (aCons_ok (rs := []) (r := .fr [.str (txt v), .str (txt v)]) rfl rfl)).trans rA
  have b1 : P_b1 [some (.lst p1), some (.d (.int r)), i, some (.d (.tup (dints v))), some (.d (.str (txt v))), z, f, none, b] = some (.fz (.str (D.lst [.tup (dints v), .tup (dints v), .str (txt v)]).py.shown)) := by
    have x1 : pFd F_read_word (aCons (pName 1) (aCons (pName 4) aNil)) [some (.lst p1), some (.d (.int r)), i, some (.d (.tup (dints v))), some (.d (.str (txt v))), z, f, none, b] = some (.fz (.tup (dints v))) :=
      (pFd_ok (rs := [.fz (.int r), .fz (.str (txt v))]) rfl).trans (callP_fz rw' (.inl rfl))
    have x2 : pFdK F_read_word (permG 0 2 [1, 0]) 2 aNil (aCons (pName 4) (aCons (pName 1) aNil)) [some (.lst p1), some (.d (.int r)), i, some (.d (.tup (dints v))), some (.d (.str (txt v))), z, f, none, b] = some (.fz (.tup (dints v))) :=
      (pFdK_ok (rs := []) (qs := [.fz (.str (txt v)), .fz (.int r)]) (us := [.fz (.int r), .fz (.str (txt v))]) rfl rfl rfl rfl).trans (callP_fz rw' (.inl rfl))
    have x4 : pFd F_word_text (aCons (pCon (.int 4)) (aCons (pName 3) aNil)) [some (.lst p1), some (.d (.int r)), i, some (.d (.tup (dints v))), some (.d (.str (txt v))), z, f, none, b] = some (.fz (.str (txt v))) :=
      (pFd_ok (rs := [.fz (.int 4), .fz (.tup (dints v))]) rfl).trans (callP_fz wt4 (.inl rfl))
    have x3 : pLst (aCons (pFd F_read_word (aCons (pName 1) (aCons (pName 4) aNil))) (aCons (pFdK F_read_word (permG 0 2 [1, 0]) 2 aNil (aCons (pName 4) (aCons (pName 1) aNil))) (aCons (pFd F_word_text (aCons (pCon (.int 4)) (aCons (pName 3) aNil))) aNil))) [some (.lst p1), some (.d (.int r)), i, some (.d (.tup (dints v))), some (.d (.str (txt v))), z, f, none, b] = some (.fr [.tup (dints v), .tup (dints v), .str (txt v)]) := by
      unfold pLst
      rw [aCons_ok x1 (aCons_ok x2 (aCons_ok (rs := []) x4 rfl))]
      rfl
    exact (pCa_ok (aCons_ok (rs := []) x3 rfl)).trans rB
  have b2 : P_b2 [some (.lst p1), some (.d (.int r)), i, some (.d (.tup (dints v))), some (.d (.str (txt v))), z, f, none, b] = some (.fz (.str (D.lst [.tup (dints v), .tup (dints v), .str (txt v)]).py.shown)) :=
    (pCa_ok (aCons_ok (rs := []) (r := .fr [.tup (dints v), .tup (dints v), .str (txt v)]) rfl rfl)).trans rB
  have i1 : sIf (tMT (tVal (p2 gNe P_a1 P_a2))) (sRet (mPP (pCon (.bl false)))) sNil [some (.lst p1), some (.d (.int r)), i, some (.d (.tup (dints v))), some (.d (.str (txt v))), z, f, none, b] = .nx [some (.lst p1), some (.d (.int r)), i, some (.d (.tup (dints v))), some (.d (.str (txt v))), z, f, none, b] :=
    (if_f (tVal_ok ((p2_ok a1 a2).trans (shown_ne_same (x := .lst [.str (txt v), .str (txt v)]) nA)))).trans rfl
  have i2 : sIf (tMT (tVal (p2 gNe P_b1 P_b2))) (sRet (mPP (pCon (.bl false)))) sNil [some (.lst p1), some (.d (.int r)), i, some (.d (.tup (dints v))), some (.d (.str (txt v))), z, f, none, b] = .nx [some (.lst p1), some (.d (.int r)), i, some (.d (.tup (dints v))), some (.d (.str (txt v))), z, f, none, b] :=
    (if_f (tVal_ok ((p2_ok b1 b2).trans (shown_ne_same (x := .lst [.tup (dints v), .tup (dints v), .str (txt v)]) nB)))).trans rfl
  exact ⟨p2', _, _, z', f', hp2, (seq_nx e1).trans ((seq_nx (set_fz q4 (by show 4 < 9; decide))).trans ((seq_nx i1).trans ((seq_nx i2).trans e5)))⟩
theorem turns {r : Int} (h1 : 1 ≤ r) (h2 : r ≤ 4) (b : Option S) : ∀ (ds : List D) {p : List D} (i w t z f : Option S), Pot p →
    ∃ p' i' w' t' z' f', Pot p' ∧ forL (gNm 2) B_turn ds [some (.lst p), some (.d (.int r)), i, w, t, z, f, none, b] = .nx [some (.lst p'), some (.d (.int r)), i', w', t', z', f', none, b]
  | [], p, i, w, t, z, f, hp => ⟨p, i, w, t, z, f, hp, rfl⟩
  | d :: ds, p, i, w, t, z, f, hp => by
    obtain ⟨p1, w1, t1, z1, f1, hp1, e1⟩ := turn_ok h1 h2 hp (some (.d d)) w t z f b
    obtain ⟨p2', i2, w2, t2, z2, f2, hp2, e2⟩ := turns h1 h2 b ds (some (.d d)) w1 t1 z1 f1 hp1
    refine ⟨p2', i2, w2, t2, z2, f2, hp2, ?_⟩
    have step : forL (gNm 2) B_turn (d :: ds) [some (.lst p), some (.d (.int r)), i, w, t, z, f, none, b] = (match B_turn [some (.lst p), some (.d (.int r)), some (.d d), w, t, z, f, none, b] with
      | .nx e2 => forL (gNm 2) B_turn ds e2
      | .ct e2 => forL (gNm 2) B_turn ds e2
      | .bk e2 => .nx e2
      | o => o) := rfl
    rw [step, e1]
    exact e2
end G13

set_option maxHeartbeats 4000000
namespace G13
open PySem PySem.Spec PyProof.Rows L2 DL
abbrev P_odd : FP := p2 gEq (pFd F__law_heard (aCons (pName 1) (aCons (pName 8) aNil))) (pLst (aCons (pCon (.str "bad")) (aCons (pCon .non) (aCons (pCon (.bl true)) aNil))))
theorem odd_one {r : Int} (h1 : 1 ≤ r) (h2 : r ≤ 4) (p i w t z f a : Option S) {y : D} (hy : isi .str y = false) : P_odd [p, some (.d (.int r)), i, w, t, z, f, a, some (.d y)] = some (.fz (.bl true)) := by
  have x1 : pFd F__law_heard (aCons (pName 1) (aCons (pName 8) aNil)) [p, some (.d (.int r)), i, w, t, z, f, a, some (.d y)] = some (.fz (hd none)) :=
    (pFd_ok (rs := [.fz (.int r), .fz y]) rfl).trans (callP_fz (heard_odd h1 h2 hy) (.inl rfl))
  have x2 : pLst (aCons (pCon (.str "bad")) (aCons (pCon .non) (aCons (pCon (.bl true)) aNil))) [p, some (.d (.int r)), i, w, t, z, f, a, some (.d y)] = some (.fr [.str "bad", .non, .bl true]) := rfl
  have n : (hd none).nice = true := by decide
  refine (p2_ok x1 x2).trans ?_
  show gEq (hd none) (hd none) = _
  rw [gEq_nice n n (by decide) (by decide), eqb_refl n]
theorem odd_list {r : Int} (h1 : 1 ≤ r) (h2 : r ≤ 4) (p i w t z f a : Option S) : ∀ ds : List D, (∀ y ∈ ds, isi .str y = false) → lcL (gNm 8) tAll P_odd [p, some (.d (.int r)), i, w, t, z, f, a, none] ds = some ((ds.map fun _ => true).map bl)
  | [], _ => rfl
  | y :: ds, h => by
    have ih := odd_list h1 h2 p i w t z f a ds fun x hx => h x (List.mem_cons_of_mem _ hx)
    unfold lcL
    rw [show gNm 8 y [p, some (.d (.int r)), i, w, t, z, f, a, none] = some [p, some (.d (.int r)), i, w, t, z, f, a, some (.d y)] from rfl, Option.bind_some]
    show ((P_odd [p, some (.d (.int r)), i, w, t, z, f, a, some (.d y)]).bind fun r' => r'.item.bind fun q => (lcL (gNm 8) tAll P_odd [p, some (.d (.int r)), i, w, t, z, f, a, none] ds).map fun xs => q :: xs) = _
    rw [odd_one h1 h2 p i w t z f a (h y List.mem_cons_self), ih]
    rfl
def oddL : List D := [.non, .int 0, .int 1, .tup [.int 1], .lst [.str "a"], .bl true, .dic [] []]
theorem right_ok {p : List D} (hp : Pot p) : ∃ p', F__law_right [.lst p] = .ok (.d (.bl true)) [some (.lst p')] := by
  obtain ⟨k, p1, hp1, k0, k1, e1⟩ := draw_ok hp 4 (by decide) (by decide)
  have h1 : 1 ≤ 1 + k := by omega
  have h2 : 1 + k ≤ 4 := by omega
  have q1 : sSet 1 (m2 DL.gAdd (mPP (pCon (.int 1))) (mFd 2 F__law_draw (arBw 0 (arFz (mPP (pCon (.int 4))) arNil)))) [some (.lst p), none, none, none, none, none, none, none, none] = .nx [some (.lst p1), some (.d (.int (1 + k))), none, none, none, none, none, none, none] := by
    simp [e1]
  obtain ⟨p2', i, w, t, z, f, hp2, e2⟩ := turns h1 h2 none (rangeD 0 4) none none none none none hp1
  have q2 : sFor (iRg1 (aCons (pCon (.int 4)) aNil)) (gNm 2) B_turn [some (.lst p1), some (.d (.int (1 + k))), none, none, none, none, none, none, none] = .nx [some (.lst p2'), some (.d (.int (1 + k))), i, w, t, z, f, none, none] := e2
  have q3 : pCa gAll (aCons (pLc [8] (iSeq (pLst (aCons (pCon .non) (aCons (pCon (.int 0)) (aCons (pCon (.int 1)) (aCons (pTup (aCons (pCon (.int 1)) aNil)) (aCons (pLst (aCons (pCon (.str "a")) aNil)) (aCons (pCon (.bl true)) (aCons pDic0 aNil))))))))) (gNm 8) tAll P_odd) aNil) [some (.lst p2'), some (.d (.int (1 + k))), i, w, t, z, f, none, none] = some (.fz (.bl true)) := by
    refine (pCa_ok (aCons_ok (rs := []) (pLc_ok (ds := oddL) (b := true) rfl (odd_list h1 h2 _ _ _ _ _ _ _ oddL (by decide)) (by decide)) rfl)).trans ((gAll_bl _).trans ?_)
    rfl
  have q4 : B__law_right [some (.lst p), none, none, none, none, none, none, none, none] = .rt (.d (.bl true)) [some (.lst p2'), some (.d (.int (1 + k))), i, w, t, z, f, none, none] :=
    (seq_nx q1).trans ((seq_nx q2).trans (ret_fz q3))
  refine ⟨p2', ?_⟩
  unfold F__law_right fnF
  rw [show lkOk [0] 0 [.lst p] = true from rfl, if_pos rfl, show enter 9 [.lst p] = [some (.lst p), none, none, none, none, none, none, none, none] from rfl, q4]
  rfl
/-! ### the pots -/
theorem pot_ok (ns : List Int) {t : Int} (t0 : 0 ≤ t) (t1 : t ≤ 1) : ∃ q, Pot q ∧ F__law_pot [.d (.ro (dints ns)), .d (.int t)] = .ok (.lst q) [some (.d (.ro (dints ns))), some (.d (.int t))] := by
  have fin : ∀ c : Int, ∃ q, Pot q ∧ (sRet (mPP (pLst (aCons (pCa gMax2 (aCons (pCon (.int 0)) (aCons (p2 DL.gSub (pName 2) (p2 gPow (pCon (.int 10)) (pCon (.int 18)))) aNil))) (aCons (p2 DL.gAdd (p2 gMod (pCa gInt (aCons (p2 DL.gAdd (p2 DL.gAdd (p2 DL.gMul (p2 gMod (pCa gInt (aCons (pName 2) aNil)) (pCon (.int 2147483549))) (pCon (.int 40014))) (p2 DL.gMul (pCon (.int 9587)) (pName 1))) (pCon (.int 61))) aNil)) (pCon (.int 2147483563))) (pCon (.int 1))) aNil)))) [some (.d (.ro (dints ns))), some (.d (.int t)), some (.d (.int c))] = .rt (.lst q) [some (.d (.ro (dints ns))), some (.d (.int t)), some (.d (.int c))]) := fun c => by
    have c0 : 0 ≤ c % 2147483549 := Int.emod_nonneg _ (by decide)
    have c1 : c % 2147483549 < 2147483549 := Int.emod_lt_of_pos _ (by decide)
    have m1 := gMul_int (i := c % 2147483549) (j := 40014) (by omega) (by decide)
    have m2' := gMul_int (i := 9587) (j := t) (by decide) (by omega)
    refine ⟨[.int (if c - 10 ^ 18 > 0 then c - 10 ^ 18 else 0), .int ((c % 2147483549 * 40014 + 9587 * t + 61) % 2147483563 + 1)], ⟨_, _, rfl, ?_, ?_, ?_⟩, ?_⟩
    · split <;> omega
    · have := Int.emod_nonneg (c % 2147483549 * 40014 + 9587 * t + 61) (show (2147483563 : Int) ≠ 0 by decide)
      omega
    · have := Int.emod_lt_of_pos (c % 2147483549 * 40014 + 9587 * t + 61) (show (0 : Int) < 2147483563 by decide)
      omega
    · simp [m1, m2', show 2 ≤ SZ by decide]
  have m0 := gMul_int (i := 1297) (j := t) (by decide) (by omega)
  have s1 : sSet 2 (mPP (p2 DL.gAdd (p2 DL.gMul (pCon (.int 1297)) (pName 1)) (pCon (.int 9587)))) [some (.d (.ro (dints ns))), some (.d (.int t)), none] = .nx [some (.d (.ro (dints ns))), some (.d (.int t)), some (.d (.int (1297 * t + 9587)))] := by
    simp [m0]
  have lt : tVal (p2 DL.gLt (pName 1) (pCa gLen (aCons (pName 0) aNil))) [some (.d (.ro (dints ns))), some (.d (.int t)), some (.d (.int (1297 * t + 9587)))] = some (decide (t < (ns.length : Int))) := by
    refine tVal_ok ?_
    show DL.gLt (.int t) (.int ((dints ns).length : Nat)) = _
    rw [dints_length]
    rfl
  have b : ∃ q c, Pot q ∧ B__law_pot [some (.d (.ro (dints ns))), some (.d (.int t)), none] = .rt (.lst q) [some (.d (.ro (dints ns))), some (.d (.int t)), some (.d (.int c))] := by
    by_cases q : t < (ns.length : Int)
    · rw [decide_eq_true q] at lt
      have hk : t.toNat < ns.length := by omega
      have a1 : atI (dints ns) t = some (.int ns[t.toNat]) := by
        rw [show dints ns = ns.map D.int from rfl, atI_map]
        unfold atI ixN
        rw [if_pos t0, if_pos q]
        simp [hk]
      obtain ⟨v, hv, e⟩ := fin (if ns[t.toNat] < 0 then -ns[t.toNat] else ns[t.toNat])
      refine ⟨v, _, hv, (seq_nx s1).trans ((seq_nx ((if_t lt).trans ?_)).trans e)⟩
      refine set_fz ?_ (by show 2 < 3; decide)
      have x1 : p2 gIx (pName 0) (pName 1) [some (.d (.ro (dints ns))), some (.d (.int t)), some (.d (.int (1297 * t + 9587)))] = some (.fz (.int ns[t.toNat])) :=
        (p2_ok (a := .fz (.ro (dints ns))) (b := .fz (.int t)) rfl rfl).trans (by
          show (atI (dints ns) t).map RV.fz = _
          rw [a1]
          rfl)
      exact (pCa_ok (aCons_ok (rs := []) x1 rfl)).trans rfl
    · rw [decide_eq_false q] at lt
      obtain ⟨v, hv, e⟩ := fin (1297 * t + 9587)
      exact ⟨v, _, hv, (seq_nx s1).trans ((seq_nx ((if_f lt).trans rfl)).trans e)⟩
  obtain ⟨v, c, hv, e⟩ := b
  refine ⟨v, hv, ?_⟩
  unfold F__law_pot fnF
  rw [show lkOk [] 0 [.d (.ro (dints ns)), .d (.int t)] = true from rfl, if_pos rfl, show enter 3 [.d (.ro (dints ns)), .d (.int t)] = [some (.d (.ro (dints ns))), some (.d (.int t)), none] from rfl, e]
  rfl
end G13

set_option maxHeartbeats 4000000
namespace G13
open PySem PySem.Spec PyProof.Rows L2 DL
abbrev M_r : FM := mFd 1 F__law_right (arOw (mPP (pFd F__law_pot (aCons (pName 0) (aCons (pName 1) aNil)))) arNil)
theorem mr_ok (ns : List Int) {t : Int} (t0 : 0 ≤ t) (t1 : t ≤ 1) : M_r [some (.d (.ro (dints ns))), some (.d (.int t))] = .ok (.d (.bl true)) [some (.d (.ro (dints ns))), some (.d (.int t))] := by
  obtain ⟨q, hq, e1⟩ := pot_ok ns t0 t1
  obtain ⟨p', e2⟩ := right_ok hq
  have x1 : pFd F__law_pot (aCons (pName 0) (aCons (pName 1) aNil)) [some (.d (.ro (dints ns))), some (.d (.int t))] = some (.fr q) :=
    (pFd_ok (rs := [.fz (.ro (dints ns)), .fz (.int t)]) rfl).trans (callP_fr e1 rfl)
  unfold M_r mFd arOw mPP
  rw [x1]
  simp [e2]
theorem law_list (ns : List Int) : ∀ ds : List D, (∀ d ∈ ds, ∃ t : Int, d = .int t ∧ 0 ≤ t ∧ t ≤ 1) → lcM (gNm 1) tAll M_r [1] ds [some (.d (.ro (dints ns))), none] = .ok ((ds.map fun _ => true).map bl) [some (.d (.ro (dints ns))), none]
  | [], _ => rfl
  | d :: ds, h => by
    obtain ⟨t, rfl, t0, t1⟩ := h d List.mem_cons_self
    have ih := law_list ns ds fun x hx => h x (List.mem_cons_of_mem _ hx)
    have step : lcM (gNm 1) tAll M_r [1] (.int t :: ds) [some (.d (.ro (dints ns))), none] = (match M_r [some (.d (.ro (dints ns))), some (.d (.int t))] with
      | .ok s e2 => OL.cons s.view (lcM (gNm 1) tAll M_r [1] ds (wipeE e2 [1]))
      | _ => .stuck) := rfl
    rw [step, mr_ok ns t0 t1]
    show OL.cons (.bl true) (lcM (gNm 1) tAll M_r [1] ds [some (.d (.ro (dints ns))), none]) = _
    rw [ih]
    rfl
theorem law_true (ns : List Int) : ∃ e, F_law [.d (.ro (dints ns))] = .ok (.d (.bl true)) e := by
  have rg : ∃ n : Nat, n ≤ 2 ∧ iRg1 (aCons (pCa gMax2 (aCons (pCon (.int 1)) (aCons (pCa gMin2 (aCons (pCon (.int 2)) (aCons (pCa gLen (aCons (pName 0) aNil)) aNil))) aNil))) aNil) [some (.d (.ro (dints ns))), none] = some (rangeD 0 n, true) := by
    have x1 : pCa gLen (aCons (pName 0) aNil) [some (.d (.ro (dints ns))), none] = some (.fz (.int (ns.length : Int))) := by
      show some (RV.fz (.int ((dints ns).length : Nat))) = _
      rw [dints_length]
    have x2 : pCa gMin2 (aCons (pCon (.int 2)) (aCons (pCa gLen (aCons (pName 0) aNil)) aNil)) [some (.d (.ro (dints ns))), none] = some (.fz (.int (if (ns.length : Int) < 2 then (ns.length : Int) else 2))) :=
      (pCa_ok (aCons_ok (r := .fz (.int 2)) rfl (aCons_ok (rs := []) x1 rfl))).trans rfl
    have x3 : pCa gMax2 (aCons (pCon (.int 1)) (aCons (pCa gMin2 (aCons (pCon (.int 2)) (aCons (pCa gLen (aCons (pName 0) aNil)) aNil))) aNil)) [some (.d (.ro (dints ns))), none] = some (.fz (.int (if (if (ns.length : Int) < 2 then (ns.length : Int) else 2) > 1 then (if (ns.length : Int) < 2 then (ns.length : Int) else 2) else 1))) :=
      (pCa_ok (aCons_ok (r := .fz (.int 1)) rfl (aCons_ok (rs := []) x2 rfl))).trans rfl
    have c : (if (if (ns.length : Int) < 2 then (ns.length : Int) else 2) > 1 then (if (ns.length : Int) < 2 then (ns.length : Int) else 2) else 1) = 1 ∨ (if (if (ns.length : Int) < 2 then (ns.length : Int) else 2) > 1 then (if (ns.length : Int) < 2 then (ns.length : Int) else 2) else 1) = 2 := by
      repeat' split
      all_goals omega
    rcases c with c | c
    · rw [c] at x3
      refine ⟨1, by decide, ?_⟩
      unfold iRg1
      rw [aCons_ok (rs := []) x3 rfl]
      rfl
    · rw [c] at x3
      refine ⟨2, by decide, ?_⟩
      unfold iRg1
      rw [aCons_ok (rs := []) x3 rfl]
      rfl
  obtain ⟨n, hn, rg⟩ := rg
  have l := law_list ns (rangeD 0 n) fun d hd => by
    obtain ⟨i, hi, rfl⟩ := List.mem_map.mp hd
    have := List.mem_range.mp hi
    exact ⟨_, rfl, by omega, by omega⟩
  have hl : (((rangeD 0 n).map fun _ => true).map bl).length ≤ SZ := by
    unfold rangeD
    rw [List.length_map, List.length_map, List.length_map, List.length_range]
    unfold SZ
    omega
  have m : mLc [1] (iRg1 (aCons (pCa gMax2 (aCons (pCon (.int 1)) (aCons (pCa gMin2 (aCons (pCon (.int 2)) (aCons (pCa gLen (aCons (pName 0) aNil)) aNil))) aNil))) aNil)) (gNm 1) tAll M_r [some (.d (.ro (dints ns))), none] = .ok (.lst (((rangeD 0 n).map fun _ => true).map bl)) [some (.d (.ro (dints ns))), none] := by
    unfold mLc
    rw [rg]
    show (match lcM (gNm 1) tAll M_r [1] (rangeD 0 n) [some (.d (.ro (dints ns))), none] with
      | .ok xs e' => if xs.length ≤ SZ then Out.ok (.lst xs) (unw [1] [some (.d (.ro (dints ns))), none] e') else .stuck
      | _ => .stuck) = _
    rw [l]
    show (if (((rangeD 0 n).map fun _ => true).map bl).length ≤ SZ then Out.ok (.lst (((rangeD 0 n).map fun _ => true).map bl)) _ else .stuck) = _
    rw [if_pos hl]
    rfl
  have al : gAll [.lst (((rangeD 0 n).map fun _ => true).map bl)] = some (.fz (.bl true)) := by
    rw [gAll_bl]
    congr 3
    rw [List.all_map]
    exact List.all_eq_true.mpr fun _ _ => rfl
  have b : B_law [some (.d (.ro (dints ns))), none] = .rt (.d (.bl true)) [some (.d (.ro (dints ns))), none] := by
    unfold B_law sRet mCa lCons
    rw [m]
    show (rvO (gAll [.lst (((rangeD 0 n).map fun _ => true).map bl)]) [some (.d (.ro (dints ns))), none]).st _ = _
    rw [al]
    rfl
  refine ⟨[some (.d (.ro (dints ns)))], ?_⟩
  unfold F_law fnF
  rw [show lkOk [] 0 [.d (.ro (dints ns))] = true from rfl, if_pos rfl, show enter 2 [.d (.ro (dints ns))] = [some (.d (.ro (dints ns))), none] from rfl, b]
  rfl
end G13

set_option maxHeartbeats 0
theorem PySem.Challenge.cw_wordhandfuls_k13_whole_texts_of_words_holds : PySem.Challenge.rw_wordhandfuls_k13_whole_texts_of_words.Holds := by
  exact G13.holds_of fun ns _ => G13.law_true ns
