import PyProof.Rows.All
import Wide.All
import OpenK.AllK
import Wide.FinOn
import HandS.ForMost
import HandS.WordsExc
import HandS.TupMul
import HandS.Deep
import HandS.TupAny
import HandS.Call
import HandS.List
import HandS.WideBits
import HandS.Wide
import HandS.IsInst
import HandS.Replace
import HandS.Style
import HandS.Zip
import HandS.RaiseMore
import HandS.Defaults
import HandS.HeadHook2
import HandS.Text
import HandS.Strs
import HandS.MapObj
import HandS.Dict
import PyProof.SeqIndex
import PyProof.Rows.StrRev
import HandS.Exc
import HandS.ExcInit
import KE.KExcIs
import HandS.Ends
import KE.KStateDown
import HandS.More
import HandS.Words
import HandS.Head0
import HandS.Head1
import HandS.Head2
import HandS.HeadHook1
import KE.DataMinKey
import KE.DataCmp
import HandS.SortKw
import KE.SortKeyHeap
import KE.SortCalls
import HandS.SetFor
import KE.DataFind
import HandS.DictComp
import HandS.Conv
import KE.SortData
import PyProof.FitsInt
import PyProof.ReprBulk
import PySem.Challenge.RW_wordhandfuls_k14_whole_rings_heads_and_t
import Lean
import KE.DatumOrd
set_option Elab.async false
set_option linter.all false
set_option maxRecDepth 100000
set_option maxHeartbeats 2000000
namespace DL
open PySem PySem.Spec PyProof.Rows L2

/-! ## data -/
inductive D where
  | non | bl (b : Bool) | int (i : Int) | str (x : Str) | tup (xs : List D) | lst (xs : List D) | ro (xs : List D) | dic (ks : List Key) (xs : List D)

/-- what a value is, frozen: no list of it is among the owned ones W -/
def KL (K : PySem.W.Frag) (a : Addr) (vs : List V) : Prop := SqL K (fun _ => none) a vs
def LsF (W : List Addr) (H : Hp) (a : Addr) (vs : List V) : Prop := H a = some (.lst vs) ∧ a ∉ W
/-- a list that nobody may write: the script, one of the module's -/
def RoF (K : PySem.W.Frag) (H : Hp) (a : Addr) (vs : List V) : Prop := (∃ o, H a = some (.frz o (.lst vs))) ∨ KL K a vs
/-- an object without a dict of its own -/
def NoD (K : PySem.W.Frag) (H : Hp) (a : Addr) : Prop := (∃ o u, H a = some (.frz o u) ∧ o.dict = none) ∨ ∃ o, K.lookup a = some o ∧ o.dict = none
/-- a tuple, exactly -/
def TqT (K : PySem.W.Frag) (H : Hp) (a : Addr) (vs : List V) : Prop := SqT K H a vs ∧ NoD K H a
mutual
def Rp (W : List Addr) (K : PySem.W.Frag) (H : Hp) : D → V → Prop
  | .non, v => v = .non
  | .bl b, v => v = .bl b
  | .int i, v => v = .int i
  | .str x, v => v = .str x
  | .tup xs, v => ∃ a vs, v = .ref a ∧ TqT K H a vs ∧ RpL W K H xs vs
  | .lst xs, v => ∃ a vs, v = .ref a ∧ LsF W H a vs ∧ RpL W K H xs vs
  | .ro xs, v => ∃ a vs, v = .ref a ∧ RoF K H a vs ∧ RpL W K H xs vs
  | .dic ks xs, v => ∃ (a : Addr) (kvs : List (Key × V)), v = .ref a ∧ (H a = some (.dK kvs) ∧ a ∉ W) ∧ kvs.map (·.1) = ks ∧ RpL W K H xs (kvs.map (·.2))
def RpL (W : List Addr) (K : PySem.W.Frag) (H : Hp) : List D → List V → Prop
  | [], vs => vs = []
  | d :: ds, vs => ∃ v r, vs = v :: r ∧ Rp W K H d v ∧ RpL W K H ds r
end

theorem KL.seq {K : PySem.W.Frag} {H : Hp} {a : Addr} {vs : List V} (h : KL K a vs) : SqL K H a vs := by
  rcases h with (h | ⟨o, h⟩) | h
  · cases h
  · cases h
  · exact .inr h
theorem LsF.seq {W : List Addr} {K : PySem.W.Frag} {H : Hp} {a : Addr} {vs : List V} (h : LsF W H a vs) : SqL K H a vs := .of h.1
theorem RoF.seq {K : PySem.W.Frag} {H : Hp} {a : Addr} {vs : List V} (h : RoF K H a vs) : SqL K H a vs := by
  rcases h with h | h
  · exact .inl (.inr h)
  · exact h.seq

section
variable {W W' : List Addr} {K : PySem.W.Frag} {H H' : Hp}
theorem RpL.length : ∀ {ds : List D} {vs : List V}, RpL W K H ds vs → ds.length = vs.length
  | [], vs, h => by have e : vs = [] := h; subst e; rfl
  | d :: ds, vs, h => by
    obtain ⟨v, r, e, _, h2⟩ := h
    rw [e, List.length_cons, List.length_cons, RpL.length h2]
theorem RpL.get : ∀ {ds : List D} {vs : List V} {i : Nat} {d : D}, RpL W K H ds vs → ds[i]? = some d → ∃ v, vs[i]? = some v ∧ Rp W K H d v
  | [], _, _, _, _, e => by simp at e
  | d :: ds, vs, i, x, h, e => by
    obtain ⟨v, r, rfl, h1, h2⟩ := h
    cases i with
    | zero => simp at e; subst e; exact ⟨v, rfl, h1⟩
    | succ i =>
      obtain ⟨u, hu, r2⟩ := RpL.get (i := i) h2 (by simpa using e)
      exact ⟨u, by simpa using hu, r2⟩
theorem RpL.getV : ∀ {ds : List D} {vs : List V} {i : Nat} {v : V}, RpL W K H ds vs → vs[i]? = some v → ∃ d, ds[i]? = some d ∧ Rp W K H d v
  | [], vs, i, v, h, e => by have z : vs = [] := h; subst z; simp at e
  | d :: ds, vs, i, x, h, e => by
    obtain ⟨v, r, rfl, h1, h2⟩ := h
    cases i with
    | zero => simp at e; subst e; exact ⟨d, rfl, h1⟩
    | succ i =>
      obtain ⟨u, hu, r2⟩ := RpL.getV (i := i) h2 (by simpa using e)
      exact ⟨u, by simpa using hu, r2⟩
theorem RpL.append : ∀ {ds es : List D} {vs us : List V}, RpL W K H ds vs → RpL W K H es us → RpL W K H (ds ++ es) (vs ++ us)
  | [], es, vs, us, h, q => by have e : vs = [] := h; subst e; exact q
  | d :: ds, es, vs, us, h, q => by
    obtain ⟨v, r, rfl, h1, h2⟩ := h
    exact ⟨v, r ++ us, rfl, h1, RpL.append h2 q⟩
theorem RpL.one {d : D} {v : V} (h : Rp W K H d v) : RpL W K H [d] [v] := ⟨v, [], rfl, h, rfl⟩
theorem RpL.take : ∀ (n : Nat) {ds : List D} {vs : List V}, RpL W K H ds vs → RpL W K H (ds.take n) (vs.take n)
  | 0, _, _, _ => rfl
  | n + 1, [], vs, h => by have e : vs = [] := h; subst e; rfl
  | n + 1, d :: ds, vs, h => by
    obtain ⟨v, r, rfl, h1, h2⟩ := h
    exact ⟨v, r.take n, rfl, h1, RpL.take n h2⟩
theorem RpL.drop : ∀ (n : Nat) {ds : List D} {vs : List V}, RpL W K H ds vs → RpL W K H (ds.drop n) (vs.drop n)
  | 0, _, _, h => h
  | n + 1, [], vs, h => by have e : vs = [] := h; subst e; rfl
  | n + 1, d :: ds, vs, h => by
    obtain ⟨v, r, rfl, h1, h2⟩ := h
    exact RpL.drop n h2
theorem RpL.reverse : ∀ {ds : List D} {vs : List V}, RpL W K H ds vs → RpL W K H ds.reverse vs.reverse
  | [], vs, h => by have e : vs = [] := h; subst e; rfl
  | d :: ds, vs, h => by
    obtain ⟨v, r, rfl, h1, h2⟩ := h
    rw [List.reverse_cons, List.reverse_cons]
    exact (RpL.reverse h2).append (.one h1)
theorem RpL.set : ∀ {ds : List D} {vs : List V} (i : Nat) {d : D} {v : V}, RpL W K H ds vs → Rp W K H d v → RpL W K H (ds.set i d) (vs.set i v)
  | [], vs, i, d, v, h, _ => by have e : vs = [] := h; subst e; exact rfl
  | x :: ds, vs, i, d, v, h, q => by
    obtain ⟨y, r, rfl, h1, h2⟩ := h
    cases i with
    | zero => exact ⟨v, r, rfl, q, h2⟩
    | succ i => exact ⟨y, r.set i v, rfl, h1, RpL.set i h2 q⟩
theorem RpL.eraseIdx : ∀ {ds : List D} {vs : List V} (i : Nat), RpL W K H ds vs → RpL W K H (ds.eraseIdx i) (vs.eraseIdx i)
  | [], vs, i, h => by have e : vs = [] := h; subst e; exact rfl
  | x :: ds, vs, i, h => by
    obtain ⟨y, r, rfl, h1, h2⟩ := h
    cases i with
    | zero => exact h2
    | succ i => exact ⟨y, r.eraseIdx i, rfl, h1, RpL.eraseIdx i h2⟩

/-- from W, H to W', H': what is not owned stands, and stays not owned -/
structure Ex (W : List Addr) (H : Hp) (W' : List Addr) (H' : Hp) : Prop where
  wm : ∀ a ∈ W, Mut (H a)
  keep : ∀ a o, H a = some o → a ∉ W → H' a = some o ∧ a ∉ W'
theorem Ex.refl (m : ∀ a ∈ W, Mut (H a)) : Ex W H W H := ⟨m, fun _ _ e n => ⟨e, n⟩⟩
theorem Ex.rd (x : Ex W H W' H') {a : Addr} {o : HO} (nm : ¬ Mut (some o)) (h : Rd H a o) : Rd H' a o := by
  rcases h with h | ⟨ob, h⟩
  · refine .inl (x.keep a _ h fun hw => nm ?_).1
    have := x.wm a hw
    rw [h] at this
    exact this
  · refine .inr ⟨ob, (x.keep a _ h fun hw => ?_).1⟩
    have := x.wm a hw
    rw [h] at this
    exact this
theorem Ex.sqT (x : Ex W H W' H') {a : Addr} {vs : List V} (h : SqT K H a vs) : SqT K H' a vs := by
  rcases h with h | h
  · exact .inl (x.rd (fun z => z) h)
  · exact .inr h
theorem Ex.noD (x : Ex W H W' H') {a : Addr} (h : NoD K H a) : NoD K H' a := by
  rcases h with ⟨o, u, h, hd⟩ | h
  · refine .inl ⟨o, u, (x.keep a _ h fun hw => ?_).1, hd⟩
    have := x.wm a hw
    rw [h] at this
    exact this
  · exact .inr h
theorem Ex.tqT (x : Ex W H W' H') {a : Addr} {vs : List V} (h : TqT K H a vs) : TqT K H' a vs := ⟨x.sqT h.1, x.noD h.2⟩
theorem TqT.frz {a : Addr} {vs : List V} {o : Obj} (hd : o.dict = none) : TqT K (upd H a (.frz o (.tup vs))) a vs := ⟨.inl (.inr ⟨o, upd_same⟩), .inl ⟨o, _, upd_same, hd⟩⟩
theorem Ex.lsF (x : Ex W H W' H') {a : Addr} {vs : List V} (h : LsF W H a vs) : LsF W' H' a vs := x.keep a _ h.1 h.2
theorem Ex.roF (x : Ex W H W' H') {a : Addr} {vs : List V} (h : RoF K H a vs) : RoF K H' a vs := by
  rcases h with ⟨o, h⟩ | h
  · refine .inl ⟨o, (x.keep a _ h fun hw => ?_).1⟩
    have := x.wm a hw
    rw [h] at this
    exact this
  · exact .inr h
mutual
theorem Rp.mono (x : Ex W H W' H') : ∀ (d : D) {v : V}, Rp W K H d v → Rp W' K H' d v
  | .non, _, h => h
  | .bl _, _, h => h
  | .int _, _, h => h
  | .str _, _, h => h
  | .tup xs, _, ⟨a, vs, e, h1, h2⟩ => ⟨a, vs, e, x.tqT h1, RpL.mono x xs h2⟩
  | .lst xs, _, ⟨a, vs, e, h1, h2⟩ => ⟨a, vs, e, x.lsF h1, RpL.mono x xs h2⟩
  | .ro xs, _, ⟨a, vs, e, h1, h2⟩ => ⟨a, vs, e, x.roF h1, RpL.mono x xs h2⟩
  | .dic ks xs, _, ⟨a, kvs, e, h1, h2, h3⟩ => ⟨a, kvs, e, x.keep a _ h1.1 h1.2, h2, RpL.mono x xs h3⟩
theorem RpL.mono (x : Ex W H W' H') : ∀ (ds : List D) {vs : List V}, RpL W K H ds vs → RpL W' K H' ds vs
  | [], _, h => h
  | d :: ds, _, ⟨v, r, e, h1, h2⟩ => ⟨v, r, e, Rp.mono x d h1, RpL.mono x ds h2⟩
end
end
end DL

set_option maxHeartbeats 2000000
namespace DL
open PySem PySem.Spec PyProof.Rows L2

abbrev St := L2.St
/-! ## what a name holds: frozen data, or an owned list of frozen data -/
inductive S where
  | d (x : D) | lst (xs : List D)
@[simp] def S.own : S → Bool
  | .d _ => false
  | .lst _ => true
@[simp] def S.view : S → D
  | .d x => x
  | .lst xs => .lst xs
abbrev En := List (Option S)
def RS (W : List Addr) (K : PySem.W.Frag) (H : Hp) : S → V → Prop
  | .d x, v => Rp W K H x v
  | .lst xs, v => ∃ a vs, v = .ref a ∧ a ∈ W ∧ H a = some (.lst vs) ∧ RpL W K H xs vs
def Ow (σ : St) (e : En) (a : Addr) : Prop := ∃ (i : Nat) (s : S), e[i]? = some (some s) ∧ s.own = true ∧ σ[i]? = some (some (.ref a))
structure SR (W : List Addr) (K : PySem.W.Frag) (H : Hp) (σ : St) (e : En) : Prop where
  wm : ∀ a ∈ W, Mut (H a)
  len : e.length = σ.length
  sl : ∀ (i : Nat) (s : S), e[i]? = some (some s) → ∃ v, σ[i]? = some (some v) ∧ RS W K H s v
  one : ∀ (i j : Nat) (s t : S) (a : Addr), e[i]? = some (some s) → e[j]? = some (some t) → s.own = true → t.own = true → σ[i]? = some (some (.ref a)) → σ[j]? = some (some (.ref a)) → i = j

theorem isSome_of_mut {o : Option HO} (h : Mut o) : o ≠ none := by
  cases o with
  | none => exact h.elim
  | some o => exact fun z => nomatch z

section
variable {W W' W1 W2 : List Addr} {K : PySem.W.Frag} {H H' H1 H2 : Hp} {σ σ' σ1 σ2 : St} {e e' e1 e2 : En}
theorem SR.ow (r : SR W K H σ e) {a : Addr} (o : Ow σ e a) : a ∈ W := by
  obtain ⟨i, s, h1, h2, h3⟩ := o
  obtain ⟨v, e1, q⟩ := r.sl i s h1
  rw [h3] at e1
  cases e1
  cases s with
  | d x => cases h2
  | lst xs =>
    obtain ⟨b, vs, z, hb, _⟩ := q
    cases z
    exact hb
theorem SR.thr (r : SR W K H σ e) {a : Addr} (h : a ∈ W) : H a ≠ none := isSome_of_mut (r.wm a h)

/-- the heap grows, nothing is changed -/
structure Grow (W : List Addr) (H : Hp) (W' : List Addr) (H' : Hp) : Prop where
  keep : ∀ a o, H a = some o → H' a = some o
  sub : ∀ a ∈ W, a ∈ W'
  new : ∀ a ∈ W', a ∈ W ∨ H a = none
  wm : ∀ a ∈ W', Mut (H' a)
theorem Grow.refl (m : ∀ a ∈ W, Mut (H a)) : Grow W H W H := ⟨fun _ _ h => h, fun _ h => h, fun _ h => .inl h, m⟩
theorem Grow.fresh (g : Grow W H W' H') {a : Addr} (h : H' a = none) : H a = none := by
  cases q : H a with
  | none => rfl
  | some o => rw [g.keep a o q] at h; cases h
theorem Grow.trans (g : Grow W H W1 H1) (k : Grow W1 H1 W2 H2) : Grow W H W2 H2 where
  keep := fun a o h => k.keep a o (g.keep a o h)
  sub := fun a h => k.sub a (g.sub a h)
  new := fun a h => by
    rcases k.new a h with z | z
    · exact g.new a z
    · exact .inr (g.fresh z)
  wm := k.wm
theorem Grow.ex (g : Grow W H W' H') (m : ∀ a ∈ W, Mut (H a)) : Ex W H W' H' where
  wm := m
  keep := fun a o h n => ⟨g.keep a o h, fun z => (g.new a z).elim n fun z => by rw [h] at z; cases z⟩
theorem Grow.rs (g : Grow W H W' H') (m : ∀ a ∈ W, Mut (H a)) : ∀ {s : S} {v : V}, RS W K H s v → RS W' K H' s v
  | .d x, v, h => Rp.mono (g.ex m) x h
  | .lst xs, v, ⟨a, vs, e, h1, h2, h3⟩ => ⟨a, vs, e, g.sub a h1, g.keep a _ h2, RpL.mono (g.ex m) xs h3⟩
theorem Grow.sr (g : Grow W H W' H') (r : SR W K H σ e) : SR W' K H' σ e where
  wm := g.wm
  len := r.len
  sl := fun i s h => let ⟨v, h1, h2⟩ := r.sl i s h; ⟨v, h1, g.rs r.wm h2⟩
  one := r.one
/-- a heap that grows without owned new ones -/
theorem Grow.of (m : ∀ a ∈ W, Mut (H a)) (k : ∀ a o, H a = some o → H' a = some o) : Grow W H W H' :=
  ⟨k, fun _ h => h, fun _ h => .inl h, fun a h => by
    have q := m a h
    cases z : H a with
    | none => rw [z] at q; exact q.elim
    | some o => rw [k a o z, ← z]; exact q⟩
theorem upd_keep {a : Addr} {o : HO} (hn : H a = none) : ∀ b u, H b = some u → upd H a o b = some u := fun b u h => by
  rw [upd_ne (ne_of_none h hn)]
  exact h
/-- a new owned list -/
theorem Grow.lst (m : ∀ a ∈ W, Mut (H a)) {p : Addr} {vs : List V} (hn : H p = none) : Grow W H (p :: W) (upd H p (.lst vs)) where
  keep := upd_keep hn
  sub := fun a h => List.mem_cons_of_mem _ h
  new := fun a h => by
    rcases List.mem_cons.mp h with rfl | h
    · exact .inr hn
    · exact .inl h
  wm := fun a h => by
    rcases List.mem_cons.mp h with rfl | h
    · rw [upd_same]; trivial
    · have q := m a h
      by_cases z : a = p
      · subst z; rw [upd_same]; trivial
      · rw [upd_ne z]; exact q

/-- what code may do: what no name of the frame owns stands; frozen things stay frozen, others' owned ones owned -/
structure EX (W : List Addr) (H : Hp) (σ : St) (e : En) (W' : List Addr) (H' : Hp) (σ' : St) (e' : En) : Prop where
  keep : ∀ a o, H a = some o → ¬ Ow σ e a → H' a = some o
  frz : ∀ a o, H a = some o → a ∉ W → a ∉ W'
  tmp : ∀ a ∈ W, ¬ Ow σ e a → a ∈ W' ∧ ¬ Ow σ' e' a
  sub : ∀ a, Ow σ' e' a → Ow σ e a ∨ H a = none
  dom : ∀ a, H' a = none → H a = none
theorem EX.refl : EX W H σ e W H σ e := ⟨fun _ _ h _ => h, fun _ _ _ n => n, fun _ h n => ⟨h, n⟩, fun _ h => .inl h, fun _ h => h⟩
theorem EX.trans (x : EX W H σ e W1 H1 σ1 e1) (y : EX W1 H1 σ1 e1 W2 H2 σ2 e2) : EX W H σ e W2 H2 σ2 e2 where
  keep := fun a o h n => y.keep a o (x.keep a o h n) fun z => (x.sub a z).elim n fun z => by rw [h] at z; cases z
  frz := fun a o h n => by
    by_cases q : Ow σ e a
    · cases z : H1 a with
      | some o1 => exact y.frz a o1 z (x.frz a o h n)
      | none => rw [x.dom a z] at h; cases h
    · exact y.frz a o (x.keep a o h q) (x.frz a o h n)
  tmp := fun a h n => let ⟨h1, n1⟩ := x.tmp a h n; y.tmp a h1 n1
  sub := fun a h => by
    rcases y.sub a h with z | z
    · exact x.sub a z
    · exact .inr (x.dom a z)
  dom := fun a h => x.dom a (y.dom a h)
theorem Grow.fx (g : Grow W H W' H') (r : SR W K H σ e) : EX W H σ e W' H' σ e where
  keep := fun a o h _ => g.keep a o h
  frz := fun a o h n => (g.ex r.wm).keep a o h n |>.2
  tmp := fun a h n => ⟨g.sub a h, n⟩
  sub := fun a h => .inl h
  dom := fun a h => g.fresh h
theorem EX.ex (x : EX W H σ e W' H' σ' e') (r : SR W K H σ e) : Ex W H W' H' where
  wm := r.wm
  keep := fun a o h n => ⟨x.keep a o h fun z => n (r.ow z), x.frz a o h n⟩

/-! ## results -/
inductive RV where
  | fz (x : D) | fr (xs : List D) | ow (xs : List D)
@[simp] def RV.view : RV → D
  | .fz x => x
  | .fr xs => .lst xs
  | .ow xs => .lst xs
/-- H: ahead of the evaluation -/
def RVok (W' : List Addr) (K : PySem.W.Frag) (H H' : Hp) : RV → V → Prop
  | .fz x, v => Rp W' K H' x v
  | .fr xs, v => ∃ a vs, v = .ref a ∧ H a = none ∧ a ∈ W' ∧ H' a = some (.lst vs) ∧ RpL W' K H' xs vs
  | .ow xs, v => ∃ a vs, v = .ref a ∧ a ∈ W' ∧ H' a = some (.lst vs) ∧ RpL W' K H' xs vs
/-- an operand: the list itself may be anyone's, what it holds is frozen -/
def Vz (W : List Addr) (K : PySem.W.Frag) (H : Hp) : D → V → Prop
  | .lst xs, v => ∃ a vs, v = .ref a ∧ H a = some (.lst vs) ∧ RpL W K H xs vs
  | .ro xs, v => ∃ a vs, v = .ref a ∧ RoF K H a vs ∧ RpL W K H xs vs
  | .non, v => v = .non
  | .bl b, v => v = .bl b
  | .int i, v => v = .int i
  | .str x, v => v = .str x
  | .tup xs, v => ∃ a vs, v = .ref a ∧ TqT K H a vs ∧ RpL W K H xs vs
  | .dic ks xs, v => ∃ (a : Addr) (kvs : List (Key × V)), v = .ref a ∧ H a = some (.dK kvs) ∧ kvs.map (·.1) = ks ∧ RpL W K H xs (kvs.map (·.2))
theorem Vz.of : ∀ {x : D} {v : V}, Rp W K H x v → Vz W K H x v
  | .non, _, h => h
  | .bl _, _, h => h
  | .int _, _, h => h
  | .str _, _, h => h
  | .tup _, _, h => h
  | .lst _, _, ⟨a, vs, e, h1, h2⟩ => ⟨a, vs, e, h1.1, h2⟩
  | .ro _, _, h => h
  | .dic _ _, _, ⟨a, kvs, e, h1, h2, h3⟩ => ⟨a, kvs, e, h1.1, h2, h3⟩
theorem RVok.vz : ∀ {r : RV} {v : V}, RVok W' K H H' r v → Vz W' K H' r.view v
  | .fz x, v, h => .of h
  | .fr xs, v, ⟨a, vs, e, _, _, h, q⟩ => ⟨a, vs, e, h, q⟩
  | .ow xs, v, ⟨a, vs, e, _, h, q⟩ => ⟨a, vs, e, h, q⟩
theorem seqKeep {a : Addr} {vs : List V} (k : ∀ a o, H a = some o → H' a = some o) (h : SqL K H a vs) : SqL K H' a vs := by
  rcases h with (h | ⟨o, h⟩) | h
  · exact .inl (.inl (k _ _ h))
  · exact .inl (.inr ⟨o, k _ _ h⟩)
  · exact .inr h
theorem Vz.grow (g : Grow W H W' H') (m : ∀ a ∈ W, Mut (H a)) : ∀ {x : D} {v : V}, Vz W K H x v → Vz W' K H' x v
  | .non, _, h => h
  | .bl _, _, h => h
  | .int _, _, h => h
  | .str _, _, h => h
  | .tup xs, _, h => Vz.of (x := .tup xs) (Rp.mono (g.ex m) (.tup xs) h)
  | .dic ks xs, _, ⟨a, kvs, e, h1, h2, h3⟩ => ⟨a, kvs, e, g.keep a _ h1, h2, RpL.mono (g.ex m) xs h3⟩
  | .ro xs, _, h => Vz.of (x := .ro xs) (Rp.mono (g.ex m) (.ro xs) h)
  | .lst xs, _, ⟨a, vs, e, h1, h2⟩ => ⟨a, vs, e, g.keep a _ h1, RpL.mono (g.ex m) xs h2⟩
theorem RVok.grow (g : Grow W1 H1 W2 H2) (m : ∀ a ∈ W1, Mut (H1 a)) : ∀ {r : RV} {v : V}, RVok W1 K H H1 r v → RVok W2 K H H2 r v
  | .fz x, v, h => Rp.mono (g.ex m) x h
  | .fr xs, v, ⟨a, vs, e, h0, h1, h, q⟩ => ⟨a, vs, e, h0, g.sub a h1, g.keep a _ h, RpL.mono (g.ex m) xs q⟩
  | .ow xs, v, ⟨a, vs, e, h1, h, q⟩ => ⟨a, vs, e, g.sub a h1, g.keep a _ h, RpL.mono (g.ex m) xs q⟩
theorem RVok.back (k : ∀ a, H1 a = none → H a = none) : ∀ {r : RV} {v : V}, RVok W' K H1 H' r v → RVok W' K H H' r v
  | .fz _, _, h => h
  | .fr _, _, ⟨a, vs, e, h0, h⟩ => ⟨a, vs, e, k a h0, h⟩
  | .ow _, _, h => h
end

/-! ## expressions that change nothing -/
abbrev FP := En → Option RV
def tP (K : PySem.W.Frag) (f : FP) : TE := fun σ H Q => ∃ (W : List Addr) (e : En) (r : RV), SR W K H σ e ∧ f e = some r ∧ ∀ v W' H', Grow W H W' H' → RVok W' K H H' r v → Q v H'
structure PP (X : Cx) (ex : Expr) (f : FP) : Prop where
  pe : PE X ex (tP X.K f)
theorem PP.of {X : Cx} {ex : Expr} {f : FP} (h : ∃ t : TE, PE X ex t ∧ ∀ (W : List Addr) (H : Hp) (σ : St) (e : En) (Q : VK) (r : RV), SR W X.K H σ e → f e = some r →
    (∀ v W' H', Grow W H W' H' → RVok W' X.K H H' r v → Q v H') → t σ H Q) : PP X ex f :=
  let ⟨_, p, k⟩ := h; ⟨⟨fun pins s σ H Q I ⟨W, e, r, a, b, c⟩ => p.run pins s σ H Q I (k W H σ e Q r a b c)⟩⟩
theorem PP.run {X : Cx} {ex : Expr} {f : FP} (h : PP X ex f) : ∃ t : TE, PE X ex t ∧ ∀ (W : List Addr) (H : Hp) (σ : St) (e : En) (Q : VK) (r : RV), SR W X.K H σ e → f e = some r →
    (∀ v W' H', Grow W H W' H' → RVok W' X.K H H' r v → Q v H') → t σ H Q := ⟨_, h.pe, fun W H σ e Q r a b c => ⟨W, e, r, a, b, c⟩⟩
/-- tests -/
abbrev FT := En → Option Bool
def tT (K : PySem.W.Frag) (f : FT) : TT := fun σ H Q => ∃ (W : List Addr) (e : En) (b : Bool), SR W K H σ e ∧ f e = some b ∧ ∀ W' H', Grow W H W' H' → Q b H'
structure TP (X : Cx) (ex : Expr) (f : FT) : Prop where
  pt : PT X ex (tT X.K f)
theorem TP.of {X : Cx} {ex : Expr} {f : FT} (h : ∃ t : TT, PT X ex t ∧ ∀ (W : List Addr) (H : Hp) (σ : St) (e : En) (Q : Bool → Hp → Prop) (b : Bool), SR W X.K H σ e → f e = some b →
    (∀ W' H', Grow W H W' H' → Q b H') → t σ H Q) : TP X ex f :=
  let ⟨_, p, k⟩ := h; ⟨⟨fun pins s σ H Q I ⟨W, e, r, a, b, c⟩ => p.run pins s σ H Q I (k W H σ e Q r a b c)⟩⟩
theorem TP.run {X : Cx} {ex : Expr} {f : FT} (h : TP X ex f) : ∃ t : TT, PT X ex t ∧ ∀ (W : List Addr) (H : Hp) (σ : St) (e : En) (Q : Bool → Hp → Prop) (b : Bool), SR W X.K H σ e → f e = some b →
    (∀ W' H', Grow W H W' H' → Q b H') → t σ H Q := ⟨_, h.pt, fun W H σ e Q r a b c => ⟨W, e, r, a, b, c⟩⟩
/-- an argument list -/
def RVs (W' : List Addr) (K : PySem.W.Frag) (H H' : Hp) : List RV → List V → Prop
  | [], vs => vs = []
  | r :: rs, vs => ∃ v us, vs = v :: us ∧ RVok W' K H H' r v ∧ RVs W' K H H' rs us
abbrev FA := En → Option (List RV)
def tA (K : PySem.W.Frag) (f : FA) : TA := fun σ H Q => ∃ (W : List Addr) (e : En) (rs : List RV), SR W K H σ e ∧ f e = some rs ∧ ∀ vs W' H', Grow W H W' H' → RVs W' K H H' rs vs → Q vs H'
structure PPs (X : Cx) (es : List Expr) (f : FA) : Prop where
  pa : PA X es (tA X.K f)
theorem PPs.of {X : Cx} {es : List Expr} {f : FA} (h : ∃ t : TA, PA X es t ∧ ∀ (W : List Addr) (H : Hp) (σ : St) (e : En) (Q : List V → Hp → Prop) (rs : List RV), SR W X.K H σ e → f e = some rs →
    (∀ vs W' H', Grow W H W' H' → RVs W' X.K H H' rs vs → Q vs H') → t σ H Q) : PPs X es f :=
  let ⟨_, p, k⟩ := h; ⟨⟨fun pos pins s σ H Q I ⟨W, e, r, a, b, c⟩ => p.run pos pins s σ H Q I (k W H σ e Q r a b c)⟩⟩
theorem PPs.run {X : Cx} {es : List Expr} {f : FA} (h : PPs X es f) : ∃ t : TA, PA X es t ∧ ∀ (W : List Addr) (H : Hp) (σ : St) (e : En) (Q : List V → Hp → Prop) (rs : List RV), SR W X.K H σ e → f e = some rs →
    (∀ vs W' H', Grow W H W' H' → RVs W' X.K H H' rs vs → Q vs H') → t σ H Q := ⟨_, h.pa, fun W H σ e Q r a b c => ⟨W, e, r, a, b, c⟩⟩
section
variable {W W1 W2 W' : List Addr} {K : PySem.W.Frag} {H H1 H2 H' : Hp}
theorem RVs.grow (g : Grow W1 H1 W2 H2) (m : ∀ a ∈ W1, Mut (H1 a)) : ∀ {rs : List RV} {vs : List V}, RVs W1 K H H1 rs vs → RVs W2 K H H2 rs vs
  | [], _, h => h
  | r :: rs, _, ⟨v, us, e, h1, h2⟩ => ⟨v, us, e, h1.grow g m, RVs.grow g m h2⟩
theorem RVs.back (k : ∀ a, H1 a = none → H a = none) : ∀ {rs : List RV} {vs : List V}, RVs W' K H1 H' rs vs → RVs W' K H H' rs vs
  | [], _, h => h
  | r :: rs, _, ⟨v, us, e, h1, h2⟩ => ⟨v, us, e, h1.back k, RVs.back k h2⟩
end

/-! ## effects, exceptions -/
/-- an exception: its class's name, its fields -/
structure XD where
  cls : Str
  fs : List (Str × D)
inductive Out where
  | stuck | ok (s : S) (e : En) | ex (x : XD) (e : En)
/-- the exception x lies as cls, d -/
def XR (mg : Str → Option Value) (W : List Addr) (K : PySem.W.Frag) (H : Hp) (x : XD) (cls : Value) (d : Option Addr) : Prop :=
  mg x.cls = some cls ∧ ((x.fs = [] ∧ d = none) ∨ ∃ dd fv, d = some dd ∧ H dd = some (.xd fv) ∧ fv.map (·.1) = x.fs.map (·.1) ∧ RpL W K H (x.fs.map (·.2)) (fv.map (·.2)))
def OutK (K : PySem.W.Frag) (mg : Str → Option Value) (Wx : WX) (W : List Addr) (H : Hp) (σ : St) (e : En) (Q : VK) : Out → Prop
  | .stuck => False
  | .ok s e' => ∀ v W' H', SR W' K H' σ e' → EX W H σ e W' H' σ e' → RS W' K H' s v → (s.own = true → ∀ a, v = .ref a → H a = none ∧ ¬ Ow σ e' a) → Q v H'
  | .ex x e' => ∀ cls d W' H', SR W' K H' σ e' → EX W H σ e W' H' σ e' → XR mg W' K H' x cls d → Wx cls d σ H'
abbrev FM := En → Out
def tM (K : PySem.W.Frag) (mg : Str → Option Value) (Wx : WX) (f : FM) : TE := fun σ H Q => ∃ (W : List Addr) (e : En), SR W K H σ e ∧ OutK K mg Wx W H σ e Q (f e)
structure PM (X : Cx) (Wx : WX) (ex : Expr) (f : FM) : Prop where
  pe : PE X ex (tM X.K X.mg Wx f)
theorem PM.of {X : Cx} {Wx : WX} {ex : Expr} {f : FM} (h : ∃ t : TE, PE X ex t ∧ ∀ (W : List Addr) (H : Hp) (σ : St) (e : En) (Q : VK), SR W X.K H σ e → OutK X.K X.mg Wx W H σ e Q (f e) → t σ H Q) : PM X Wx ex f :=
  let ⟨_, p, k⟩ := h; ⟨⟨fun pins s σ H Q I ⟨W, e, a, b⟩ => p.run pins s σ H Q I (k W H σ e Q a b)⟩⟩
theorem PM.run {X : Cx} {Wx : WX} {ex : Expr} {f : FM} (h : PM X Wx ex f) : ∃ t : TE, PE X ex t ∧ ∀ (W : List Addr) (H : Hp) (σ : St) (e : En) (Q : VK), SR W X.K H σ e → OutK X.K X.mg Wx W H σ e Q (f e) → t σ H Q :=
  ⟨_, h.pe, fun W H σ e Q a b => ⟨W, e, a, b⟩⟩

/-! ## statements -/
inductive Fl where
  | stuck | nx (e : En) | rt (s : S) (e : En) | bk (e : En) | ct (e : En) | ex (x : XD) (e : En)
/-- lk: slots that stand -/
def FlK (K : PySem.W.Frag) (mg : Str → Option Value) (Wx : WX) (lk : List Nat) (W : List Addr) (H : Hp) (σ : St) (e : En) (D : Ends) : Fl → Prop
  | .stuck => False
  | .nx e' => ∀ W' H' σ', SR W' K H' σ' e' → EX W H σ e W' H' σ' e' → (∀ i ∈ lk, σ'[i]? = σ[i]?) → D.nx σ' H'
  | .bk e' => ∀ W' H' σ', SR W' K H' σ' e' → EX W H σ e W' H' σ' e' → (∀ i ∈ lk, σ'[i]? = σ[i]?) → D.bk σ' H'
  | .ct e' => ∀ W' H' σ', SR W' K H' σ' e' → EX W H σ e W' H' σ' e' → (∀ i ∈ lk, σ'[i]? = σ[i]?) → D.ct σ' H'
  | .rt s e' => ∀ v W' H' σ', SR W' K H' σ' e' → EX W H σ e W' H' σ' e' → (∀ i ∈ lk, σ'[i]? = σ[i]?) → RS W' K H' s v →
      (s.own = true → ∀ a, v = .ref a → ¬ Ow σ' e' a ∧ (Ow σ e a ∨ H a = none)) → D.rt v H'
  | .ex x e' => ∀ cls d W' H' σ', SR W' K H' σ' e' → EX W H σ e W' H' σ' e' → (∀ i ∈ lk, σ'[i]? = σ[i]?) → XR mg W' K H' x cls d → Wx cls d σ' H'
abbrev FS := En → Fl
def tS (K : PySem.W.Frag) (mg : Str → Option Value) (Wx : WX) (lk : List Nat) (f : FS) : TS := fun D σ H => ∃ (W : List Addr) (e : En), SR W K H σ e ∧ FlK K mg Wx lk W H σ e D (f e)
structure SD (X : Cx) (Wx : WX) (lk : List Nat) (st : Stmt) (f : FS) : Prop where
  ps : PS X st (tS X.K X.mg Wx lk f)
structure SDs (X : Cx) (Wx : WX) (lk : List Nat) (st : List Stmt) (f : FS) : Prop where
  ps : PSs X st (tS X.K X.mg Wx lk f)
theorem SD.of {X : Cx} {Wx : WX} {lk : List Nat} {st : Stmt} {f : FS} (h : ∃ t : TS, PS X st t ∧ ∀ (W : List Addr) (H : Hp) (σ : St) (e : En) (D : Ends), SR W X.K H σ e → FlK X.K X.mg Wx lk W H σ e D (f e) → t D σ H) : SD X Wx lk st f :=
  let ⟨_, p, k⟩ := h; ⟨⟨fun pins s σ H D I ⟨W, e, a, b⟩ => p.run pins s σ H D I (k W H σ e D a b)⟩⟩
theorem SD.run {X : Cx} {Wx : WX} {lk : List Nat} {st : Stmt} {f : FS} (h : SD X Wx lk st f) : ∃ t : TS, PS X st t ∧ ∀ (W : List Addr) (H : Hp) (σ : St) (e : En) (D : Ends), SR W X.K H σ e → FlK X.K X.mg Wx lk W H σ e D (f e) → t D σ H :=
  ⟨_, h.ps, fun W H σ e D a b => ⟨W, e, a, b⟩⟩
theorem SDs.of {X : Cx} {Wx : WX} {lk : List Nat} {st : List Stmt} {f : FS} (h : ∃ t : TS, PSs X st t ∧ ∀ (W : List Addr) (H : Hp) (σ : St) (e : En) (D : Ends), SR W X.K H σ e → FlK X.K X.mg Wx lk W H σ e D (f e) → t D σ H) : SDs X Wx lk st f :=
  let ⟨_, p, k⟩ := h; ⟨⟨fun pins s σ H D I ⟨W, e, a, b⟩ => p.run pins s σ H D I (k W H σ e D a b)⟩⟩
theorem SDs.run {X : Cx} {Wx : WX} {lk : List Nat} {st : List Stmt} {f : FS} (h : SDs X Wx lk st f) : ∃ t : TS, PSs X st t ∧ ∀ (W : List Addr) (H : Hp) (σ : St) (e : En) (D : Ends), SR W X.K H σ e → FlK X.K X.mg Wx lk W H σ e D (f e) → t D σ H :=
  ⟨_, h.ps, fun W H σ e D a b => ⟨W, e, a, b⟩⟩
end DL

set_option maxHeartbeats 2000000
namespace L2
open PySem PySem.Spec PyProof.Rows
/-! # tuple * int: the tuple itself, of none or one time -/
theorem tuple_mul1 (l : Addr) (items : Array Value) (n : Nat) (dd : Option Addr) (sl : Array (Option Value)) (x : Int) (u : Tok) (c0 : (decide (x < -(2 ^ 63)) || decide (x ≥ 2 ^ 63)) = false) (c1 : (items.isEmpty || x == 1) = true) :
    Meets (Builtin.«tuple.__mul__» ⟨[.ref l, .int x u], []⟩) (fun _ R s => s.heap.get? l = some { cls := .type "tuple", dict := dd, data := .seq items n, slots := sl } ∧
      R (.ok (.ret (Value.ref l))) s) :=
  .of_wp fun prog w A R s h => by
    obtain ⟨hp, g, d, tk, os⟩ := s
    obtain ⟨hl, h⟩ := h
    have f1 := AutoSeq1.idx_int
    wp_walk using wpAny_loadPart' hl
    repeat (first
      | (refine wpAny_ite_false (decide_eq_false (by rw [c0]; exact Bool.false_ne_true)) ?_; wp_walk using wpAny_loadPart' hl)
      | (refine wpAny_ite_true (decide_eq_true c1) ?_; wp_walk using wpAny_loadPart' hl))
    exact ⟨_, rfl, h⟩
def rRep1T (K : PySem.W.Frag) : R2 := fun x y H Q => ∃ l k xs, x = .ref l ∧ y = .int k ∧ SqT K H l xs ∧ (xs = [] ∨ k = 1) ∧ -1000 ≤ k ∧ k ≤ 1000 ∧ Q (.ref l) H
section
variable {X : Cx}
theorem op_rep1T : OpR X (binaryOp .Mult) (rRep1T X.K) := by
  intro pins s σ H x y v u Q I rx ry h
  obtain ⟨l, k, xs, rfl, rfl, hT, hne, h1, h2, q⟩ := h
  cases rx
  obtain ⟨t, rfl⟩ := ry
  obtain ⟨its, r, ⟨⟨cls, dd, data, sl⟩, ho, hc, n, hd⟩, hs⟩ := I.tuple hT
  simp only at hc hd
  subst hc hd
  have hle : its.length = xs.length := r.length.symm
  have c0 : (decide (k < -(2 ^ 63)) || decide (k ≥ 2 ^ 63)) = false := by
    rw [decide_eq_false (by omega), decide_eq_false (by omega)] <;> rfl
  have c1 : (its.toArray.isEmpty || k == 1) = true := by
    rcases hne with rfl | rfl
    · have : its = [] := List.eq_nil_of_length_eq_zero hle
      subst this
      rfl
    · rw [Bool.or_eq_true]; exact .inr rfl
  refine wpAny_binaryOp_repeat_ref (T := "tuple") (U := "int") (by decide) ⟨_, ho, rfl⟩ (fun s' => typeIs_int s' k t) noFill_tuple_mul F.fills_int_mul F.slot_int_rmul repeat_tuple F.slot_int_index.lookup
    (call_meets F.slot_int_rmul (typeIs_int s k t) F.entry_int_rmul (F.args_int_rmul_2 _ _) (int_rmul_tuple k t l its.toArray n dd sl)
      ⟨ho, rfl, ⟨_, ho, rfl⟩, call_meets F.slot_tuple_mul ⟨_, ho, rfl⟩ F.entry_tuple_mul (F.args_tuple_mul_2 _ _) (tuple_mul1 l its.toArray n dd sl k t c0 c1) ⟨ho, ?_⟩⟩)
  exact ⟨.ref l, H, I, rfl, q⟩
/-! # new tuples, their objects known: no dict -/
/-- what is asked of a new tuple -/
def NewT (H : Hp) (xs : List V) (Q : VK) : Prop := ∀ (p : Addr) (o : Obj), o.dict = none → H p = none → Q (.ref p) (upd H p (.frz o (.tup xs)))
section
variable {X : Cx} {pins : List (Addr × Obj)} {σ : St} {H : Hp} {s : Shared}
theorem inv_newT {h : Heap} {its : List Value} {xs : List V} {n : Nat} {tk : Nat} (I : Inv X pins σ H s) (kp : ∀ b u, s.heap.get? b = some u → h.get? b = some u) (hz : xs.length ≤ sizeLine) (r : Vals xs its) (hp : s.heap.objs.size ≤ h.objs.size) :
    ∃ o : Obj, o.dict = none ∧ H h.objs.size = none ∧ Inv X pins σ (upd H h.objs.size (.frz o (.tup xs))) { s with heap := h.push { cls := .type "tuple", data := .seq its.toArray n }, toks := tk } := by
  have g : (h.push { cls := .type "tuple", data := .seq its.toArray n }).get? h.objs.size = some { cls := .type "tuple", data := .seq its.toArray n } := Heap.get?_push_size _ rfl
  exact ⟨_, rfl, I.hok.fresh hp, I.laid (t' := tk) (o := .frz { cls := .type "tuple", data := .seq its.toArray n } (.tup xs)) (fun b u e => Heap.get?_push_of_some _ (kp b u e)) hp ⟨g, hz, its, r, _, g, rfl, _, rfl⟩⟩
theorem ep_newT {A : Around} {h : Heap} {its : List Value} {xs : List V} {n : Nat} {tk : Nat} {Q : VK} (I : Inv X pins σ H s) (kp : ∀ b u, s.heap.get? b = some u → h.get? b = some u) (hz : xs.length ≤ sizeLine) (r : Vals xs its) (hp : s.heap.objs.size ≤ h.objs.size) (q : NewT H xs Q) :
    EP X pins σ Q (.ref h.objs.size) { s with heap := h.push { cls := .type "tuple", data := .seq its.toArray n }, toks := tk } := by
  obtain ⟨o, hd, hn, I2⟩ := inv_newT (n := n) (tk := tk) I kp hz r hp
  exact ⟨.ref h.objs.size, _, I2, rfl, q _ o hd hn⟩
end
section
variable {X : Cx}
def rCatN (K : PySem.W.Frag) : R2 := fun x y H Q => ∃ a b xs ys, x = .ref a ∧ y = .ref b ∧ SqT K H a xs ∧ SqT K H b ys ∧ xs.length + ys.length ≤ sizeLine ∧ (xs = [] → Q (.ref b) H) ∧ (xs ≠ [] → ys = [] → Q (.ref a) H) ∧ (xs ≠ [] → ys ≠ [] → NewT H (xs ++ ys) Q)
theorem op_catN : OpR X (binaryOp .Add) (rCatN X.K) := by
  intro pins s σ H x y v u Q I rx ry h
  obtain ⟨a, b, xs, ys, rfl, rfl, ha, hb, hz, q0, q1, q2⟩ := h
  cases rx
  cases ry
  obtain ⟨its, r1, p1, _⟩ := I.tuple ha
  obtain ⟨its2, r2, p2, _⟩ := I.tuple hb
  by_cases hx : xs = []
  · subst hx
    cases r1
    exact cat_tup0 p1 p2 ⟨.ref b, H, I, rfl, q0 rfl⟩
  · refine HT.cat_tup p1 p2 (fun z => hx (r1.nil_iff.mp z)) (fun z => ⟨.ref a, H, I, rfl, q1 hx (r2.nil_iff.mp z)⟩) (fun z => ?_) (by rw [← r1.length, ← r2.length]; exact hz)
    exact ep_newT (A := X.A) I (fun _ _ e => e) (by rw [List.length_append]; exact hz) (r1.append r2) (Nat.le_refl _) (q2 hx fun w => z (r2.nil_iff.mpr w))
def rSlN (K : PySem.W.Frag) : V → Option Int → Option Int → Hp → VK → Prop := fun x lo hi H Q => ∃ a xs, x = .ref a ∧ SqT K H a xs ∧
  (HT.sIx xs.length 0 lo = 0 ∧ HT.sIx xs.length xs.length hi = xs.length → Q (.ref a) H) ∧ (¬ (HT.sIx xs.length 0 lo = 0 ∧ HT.sIx xs.length xs.length hi = xs.length) → NewT H (cutV xs lo hi) Q)
theorem sl_tupN : SlR X (rSlN X.K) := by
  intro pins s σ H x v vl vu lo hi sl Q I rx hs pl pu h
  obtain ⟨a, xs, rfl, hx, q1, q2⟩ := h
  cases rx
  obtain ⟨its, r, ht, hz⟩ := I.tuple hx
  have hlen : its.toArray.size = xs.length := by rw [List.size_toArray]; exact r.length.symm
  refine ⟨"tuple", _, PyProof.Rows.slot_tuple_getitem.lookup, ht.typeIs, ?_⟩
  by_cases hw : HT.sIx xs.length 0 lo = 0 ∧ HT.sIx xs.length xs.length hi = xs.length
  · exact getItem_tuple_whole ht hs pl pu (by rw [hlen]; exact hw) ⟨.ref a, H, I, rfl, q1 hw⟩
  · refine HT.getItem_tuple_cut ht hs pl pu (by rw [hlen]; exact hw) ?_ (by rw [hlen]; exact hz)
    rw [hlen]
    exact ep_newT (A := X.A) I (fun _ _ e => e) (Nat.le_trans (cutV_length xs lo hi) hz) ((r.drop (HT.sIx xs.length 0 lo)).take (HT.sIx xs.length xs.length hi - HT.sIx xs.length 0 lo)) (Nat.le_refl _) (q2 hw)
theorem call_tupN : CallR X (.type "tuple") (fun xs H Q => ∃ p ys, xs = [.ref p] ∧ ((SqL X.K H p ys ∧ NewT H ys Q) ∨ (SqT X.K H p ys ∧ Q (.ref p) H))) := by
  intro pins s σ H xs us Q I r h
  obtain ⟨p, ys, rfl, h⟩ := h
  obtain ⟨u, rfl, rx⟩ := vals1 r
  cases rx
  rcases h with ⟨hq, q⟩ | ⟨hq, q⟩
  · obtain ⟨its, r', pl, hz⟩ := I.list hq
    have hlen := r'.length
    refine call_tuple_list pl.isList (fun h' kp => ?_) (by simp only [List.size_toArray] <;> omega)
    have I1 : Inv X pins σ H { s with heap := h' } := I.kept (t' := s.toks) kp
    exact ep_newT (A := X.A) (s := { s with heap := h' }) I1 (fun _ _ e => e) hz r' (Nat.le_refl _) q
  · obtain ⟨its, r', pl, hz⟩ := I.tuple hq
    exact call_tuple_same pl ⟨.ref p, H, I, rfl, q⟩
theorem call_divN : CallR X (.builtin "divmod") (fun xs H Q => ∃ i j, xs = [.int i, .int j] ∧ CDiv i j ∧ NewT H [.int (i / j), .int (i % j)] Q) := by
  intro pins s σ H xs us Q I r h
  obtain ⟨i, j, rfl, ⟨h1, h2⟩, q⟩ := h
  obtain ⟨u, w', rfl, ⟨t, rfl⟩, ⟨t', rfl⟩⟩ := vals2 r
  refine divmod_int (by omega) ?_ (.inl (PyProof.noPylong_small (by omega)))
  rw [Int.fdiv_eq_ediv_of_nonneg i (by omega), Int.fmod_eq_emod_of_nonneg i (by omega)]
  exact ep_newT (A := X.A) (its := [.int (i / j) s.toks, .int (i % j) (s.toks + 1)]) (xs := [.int (i / j), .int (i % j)]) I (fun _ _ e => e) (by simp only [List.length_cons, List.length_nil]; rw [sizeLine_eq]; decide) (.cons ⟨_, rfl⟩ (.cons ⟨_, rfl⟩ .nil)) (Nat.le_refl _) q
def tTupN (t : TA) : TE := fun σ H Q => t σ H fun xs H1 => xs.length ≤ sizeLine ∧ NewT H1 xs Q
theorem pe_tupN {es : List Expr} {t : TA} {pos : Pos} {x1} (h : PA X es t) : PE X (.Tuple es x1 pos) (tTupN t) := by
  refine ⟨fun pins s σ H Q I hq => ?_⟩
  refine wpAny_Tuple_spliced (thn (h.run pos pins s σ H _ I hq) fun us s1 ⟨xs, H1, I1, r, z, q⟩ => ⟨by rw [← r.length]; exact z, ?_⟩)
  exact ep_newT (A := X.A) I1 (fun _ _ e => e) z r (Nat.le_refl _) q
def rRepN (K : PySem.W.Frag) : R2 := fun x y H Q => ∃ l k xs, x = .ref l ∧ y = .int k ∧ SqT K H l xs ∧ xs ≠ [] ∧ 2 ≤ k ∧ k ≤ 1000 ∧ xs.length ≤ 1000 ∧ NewT H (List.replicate k.toNat xs).flatten Q
theorem op_repN : OpR X (binaryOp .Mult) (rRepN X.K) := by
  intro pins s σ H x y v u Q I rx ry h
  obtain ⟨l, k, xs, rfl, rfl, hT, hne, k2, kh, xh, q⟩ := h
  cases rx
  obtain ⟨tk, rfl⟩ := ry
  obtain ⟨its, r, ⟨⟨cls, dd, data, sl⟩, ho, hc, n, hd⟩, _⟩ := I.tuple hT
  simp only at hc hd
  subst hc hd
  have len : its.length = xs.length := r.length.symm
  have some1 : its.toArray.isEmpty = false := by
    cases its with
    | nil => exact absurd (List.eq_nil_of_length_eq_zero len.symm) hne
    | cons _ _ => rfl
  have sz : its.toArray.size = xs.length := len
  have few : k.toNat * xs.length ≤ 1000000 := show k.toNat * xs.length ≤ 1000 * 1000 from Nat.mul_le_mul (by omega) xh
  have fewZ : (xs.length : Int) * k ≤ 1000000 := by
    have e : ((k.toNat * xs.length : Nat) : Int) = k * xs.length := by rw [Int.natCast_mul, Int.toNat_of_nonneg (by omega)]
    have : ((k.toNat * xs.length : Nat) : Int) ≤ 1000000 := Int.ofNat_le.mpr few
    rw [e, Int.mul_comm] at this
    exact this
  have lim := sizeLine_eq
  have fewS : ((its.toArray.size : Nat) : Int) * k ≤ 1000000 := by rw [sz]; exact fewZ
  have made : (List.replicate k.toNat its).flatten.length ≤ sizeLine := by
    rw [PyProof.Rows.lm_len_rep_flat, len]
    omega
  have q1 : (decide (k < -(2 ^ 63)) || decide (k ≥ 2 ^ 63)) = false := by rw [decide_eq_false (by omega), decide_eq_false (by omega)] <;> rfl
  have q2 : (its.toArray.isEmpty || k == 1) = false := by rw [some1, Bool.false_or, beq_eq_false_iff_ne]; omega
  have q3 : (decide (k ≤ 0) || its.toArray.isEmpty) = false := by rw [some1, Bool.or_false, decide_eq_false_iff_not]; omega
  have q4 : Builtin.Tuple.tupleTooMany (((its.toArray.size : Nat) : Int) * k) = false := by
    unfold Builtin.Tuple.tupleTooMany
    rw [sz, decide_eq_false_iff_not]
    omega
  refine wpAny_binaryOp_repeat_ref (T := "tuple") (U := "int") (by decide) ⟨_, ho, rfl⟩ (fun s' => typeIs_int s' k tk) noFill_tuple_mul F.fills_int_mul F.slot_int_rmul repeat_tuple F.slot_int_index.lookup
    (call_meets F.slot_int_rmul (typeIs_int s k tk) F.entry_int_rmul (F.args_int_rmul_2 _ _) (int_rmul_tuple k tk l its.toArray n dd sl) ⟨ho, rfl, ⟨_, ho, rfl⟩, ?_⟩)
  refine call_meets F.slot_tuple_mul ⟨_, ho, rfl⟩ F.entry_tuple_mul (F.args_tuple_mul_2 _ _) (tuple_mulW l its.toArray n dd sl k tk q1 q2 q3 (by omega) q4 (by rw [size_rep, List.size_toArray]; exact made)) ⟨ho, ?_⟩
  rw [size_rep]
  exact ep_newT (A := X.A) I (fun _ _ e => e) (by rw [PyProof.Rows.lm_len_rep_flat]; omega) (r.rep k.toNat) (Nat.le_refl _) q
end
/-! # x in t, t a tuple of data of any depth -/
def rInDT (K : PySem.W.Frag) : R2 := fun x y H Q => ∃ d ds, Dp K H x d ∧ Dp K H y (.tuple ds) ∧ SeqAt.shaped d = true ∧ SeqAt.shaped (.tuple ds) = true ∧ Q (.bl (ds.any fun z => PyData.eqv z d)) H
def rNotInDT (K : PySem.W.Frag) : R2 := fun x y H Q => ∃ d ds, Dp K H x d ∧ Dp K H y (.tuple ds) ∧ SeqAt.shaped d = true ∧ SeqAt.shaped (.tuple ds) = true ∧ Q (.bl (!ds.any fun z => PyData.eqv z d)) H
theorem op_inDT (hu : X.A.units + 65 < cLine) : OpR X (compareOp .In) (rInDT X.K) := by
  intro pins s σ H x y v u Q I rx ry h
  obtain ⟨d, ds, hd, he, sd, se, q⟩ := h
  obtain ⟨as, r1⟩ := Dp.reads I d x v hd rx
  obtain ⟨bs, r2⟩ := Dp.reads I (.tuple ds) y u he ry
  exact SeqAt.in_tuple_reads r2 r1 (SeqAt.canLay_of_shaped (d := .tuple ds) se) (SeqAt.canLay_of_shaped sd) (room_in_shaped sd hu) ⟨.bl _, H, I, rfl, q⟩
theorem op_notInDT (hu : X.A.units + 65 < cLine) : OpR X (compareOp .NotIn) (rNotInDT X.K) := by
  intro pins s σ H x y v u Q I rx ry h
  obtain ⟨d, ds, hd, he, sd, se, q⟩ := h
  obtain ⟨as, r1⟩ := Dp.reads I d x v hd rx
  obtain ⟨bs, r2⟩ := Dp.reads I (.tuple ds) y u he ry
  exact SeqAt.notIn_tuple_reads r2 r1 (SeqAt.canLay_of_shaped (d := .tuple ds) se) (SeqAt.canLay_of_shaped sd) (room_in_shaped sd hu) ⟨.bl _, H, I, rfl, q⟩
end
end L2

set_option maxHeartbeats 2000000
namespace DL
open PySem PySem.Spec PyProof.Rows L2

def SZ : Nat := 16777216
theorem SZ_eq : sizeLine = SZ := sizeLine_eq

/-! ## operations by data -/
abbrev KQ (W : List Addr) (K : PySem.W.Frag) (H : Hp) (r : RV) (Q : VK) : Prop := ∀ v W' H', Grow W H W' H' → RVok W' K H H' r v → Q v H'
abbrev WM (W : List Addr) (H : Hp) : Prop := ∀ a ∈ W, Mut (H a)
structure Op2 (X : Cx) (f : Value → Value → Sem Value) (g : D → D → Option RV) : Prop where
  run : ∃ rl : R2, OpR X f rl ∧ ∀ (W : List Addr) (H : Hp) (x y : V) (dx dy : D) (r : RV) (Q : VK), WM W H → Vz W X.K H dx x → Vz W X.K H dy y → g dx dy = some r → KQ W X.K H r Q → rl x y H Q
structure Op1 (X : Cx) (f : Value → Sem Value) (g : D → Option RV) : Prop where
  run : ∃ rl : V → Hp → VK → Prop, UnR X f rl ∧ ∀ (W : List Addr) (H : Hp) (x : V) (dx : D) (r : RV) (Q : VK), WM W H → Vz W X.K H dx x → g dx = some r → KQ W X.K H r Q → rl x H Q

section
variable {W : List Addr} {K : PySem.W.Frag} {H : Hp} {r : RV} {Q : VK}
/-- an answer that needs no heap -/
theorem KQ.fz {x : D} {v : V} (wm : WM W H) (k : KQ W K H (.fz x) Q) (h : Rp W K H x v) : Q v H := k v W H (.refl wm) h
/-- a new list -/
theorem KQ.fr {xs : List D} {vs : List V} (wm : WM W H) (k : KQ W K H (.fr xs) Q) (h : RpL W K H xs vs) : ∀ p, H p = none → Q (.ref p) (upd H p (.lst vs)) := fun p hn =>
  k (.ref p) (p :: W) _ (.lst wm hn) ⟨p, vs, rfl, hn, List.mem_cons_self, upd_same, RpL.mono ((Grow.lst wm hn).ex wm) xs h⟩
/-- a new tuple -/
theorem Grow.tup (wm : WM W H) {p : Addr} {o : HO} (hn : H p = none) : Grow W H W (upd H p o) := .of wm (upd_keep hn)
theorem KQ.tup {xs : List D} {vs : List V} (wm : WM W H) (k : KQ W K H (.fz (.tup xs)) Q) (h : RpL W K H xs vs) : NewT H vs Q := fun p o hd hn =>
  k (.ref p) W _ (.tup wm hn) ⟨p, vs, rfl, .frz hd, RpL.mono ((Grow.tup wm hn).ex wm) xs h⟩
end

section
variable {X : Cx}
@[simp] def gAdd : D → D → Option RV
  | .int i, .int j => some (.fz (.int (i + j)))
  | .str x, .str y => if x.length + y.length ≤ SZ then some (.fz (.str (x ++ y))) else none
  | .tup xs, .tup ys => if xs.length + ys.length ≤ SZ then some (.fz (.tup (xs ++ ys))) else none
  | .lst xs, .lst ys => if xs.length + ys.length ≤ SZ then some (.fr (xs ++ ys)) else none
  | _, _ => none
theorem o_add : Op2 X (binaryOp .Add) gAdd := by
  refine ⟨_, op_add.or (op_add_str.or (op_catN.or op_cat)), fun W H x y dx dy r Q wm hx hy hg k => ?_⟩
  unfold gAdd at hg
  split at hg
  · cases hg
    exact .inl ⟨_, _, hx, hy, k.fz wm rfl⟩
  · split at hg
    · rename_i hz
      cases hg
      exact .inr (.inl ⟨_, _, hx, hy, by rw [SZ_eq]; exact hz, k.fz wm rfl⟩)
    · cases hg
  · split at hg
    · rename_i xs ys hz
      cases hg
      obtain ⟨a, vs, e1, h1, r1⟩ := hx
      obtain ⟨b, us, e2, h2, r2⟩ := hy
      refine .inr (.inr (.inl ⟨a, b, vs, us, e1, e2, h1.1, h2.1, by rw [SZ_eq, ← r1.length, ← r2.length]; exact hz, fun e => ?_, fun _ e => ?_, fun _ _ => k.tup wm (r1.append r2)⟩))
      · subst e
        have z : xs = [] := List.eq_nil_of_length_eq_zero r1.length
        subst z
        exact k.fz wm ⟨b, us, rfl, h2, r2⟩
      · subst e
        have z : ys = [] := List.eq_nil_of_length_eq_zero r2.length
        subst z
        exact k.fz wm ⟨a, vs, rfl, h1, by rw [List.append_nil]; exact r1⟩
    · cases hg
  · split at hg
    · rename_i xs ys hz
      cases hg
      obtain ⟨a, vs, e1, h1, r1⟩ := hx
      obtain ⟨b, us, e2, h2, r2⟩ := hy
      exact .inr (.inr (.inr ⟨a, b, vs, us, e1, e2, h1, h2, by rw [SZ_eq, ← r1.length, ← r2.length]; exact hz, k.fr wm (r1.append r2)⟩))
    · cases hg
  · cases hg
@[simp] def gSub : D → D → Option RV
  | .int i, .int j => some (.fz (.int (i - j)))
  | _, _ => none
theorem o_sub : Op2 X (binaryOp .Sub) gSub := by
  refine ⟨_, op_sub, fun W H x y dx dy r Q wm hx hy hg k => ?_⟩
  unfold gSub at hg
  split at hg
  · cases hg
    exact ⟨_, _, hx, hy, k.fz wm rfl⟩
  · cases hg

theorem RpL.rep {W : List Addr} {K : PySem.W.Frag} {H : Hp} {ds : List D} {vs : List V} (h : RpL W K H ds vs) : ∀ k : Nat, RpL W K H (List.replicate k ds).flatten (List.replicate k vs).flatten
  | 0 => rfl
  | k + 1 => by
    rw [List.replicate_succ, List.replicate_succ, List.flatten_cons, List.flatten_cons]
    exact h.append (RpL.rep h k)
def repS (z : Str) (n : Nat) : Str := ⟨(List.replicate n z.cps).foldl (· ++ ·) #[]⟩
theorem repS_len (z : Str) : ∀ (n : Nat) (acc : Array Nat), ((List.replicate n z.cps).foldl (· ++ ·) acc).size = acc.size + n * z.length
  | 0, acc => by simp
  | n + 1, acc => by
    rw [List.replicate_succ, List.foldl_cons, repS_len z n, Array.size_append]
    show acc.size + z.length + n * z.length = acc.size + (n + 1) * z.length
    rw [Nat.succ_mul]
    omega
def rRepS : R2 := fun x y H Q => ∃ (z : Str) (k : Int), x = .str z ∧ y = .int k ∧ 2 ≤ k ∧ k ≤ 1000 ∧ 1 ≤ z.length ∧ z.length ≤ 1000 ∧ Q (.str (repS z k.toNat)) H
theorem op_repS : OpR X (binaryOp .Mult) rRepS := by
  intro pins s σ H x y v u Q I rx ry h
  obtain ⟨z, k, rfl, rfl, h1, h2, h3, h4, q⟩ := h
  obtain ⟨t, rfl⟩ := rx
  obtain ⟨t', rfl⟩ := ry
  have m1 : z.length * k.toNat ≤ 1000 * 1000 := Nat.mul_le_mul h4 (by omega)
  have e1 : (k == 1 || z.length == 0) = false := by
    rw [Bool.or_eq_false_iff]
    exact ⟨beq_eq_false_iff_ne.mpr (by omega), beq_eq_false_iff_ne.mpr (by omega)⟩
  refine PySem.P.mul_str (by rw [decide_eq_false (by omega), decide_eq_false (by omega)]; rfl) (fun _ _ q => ?_) (fun _ _ => ?_) ?_
  · have h5 : (z.length : Int) ≤ (2 ^ 63 - 1) / k := (Int.le_ediv_iff_mul_le (by omega)).mpr (by
      have h6 : (z.length : Int) * k ≤ 1000 * 1000 := Int.mul_le_mul (by omega) h2 (by omega) (by omega)
      omega)
    omega
  · unfold Builtin.Str.tooLong
    exact decide_eq_false (by rw [sizeLine_eq]; omega)
  · rw [if_neg (by omega), e1]
    have hz : (repS z k.toNat).length ≤ sizeLine := by
      show ((List.replicate k.toNat z.cps).foldl (· ++ ·) #[]).size ≤ sizeLine
      rw [repS_len, sizeLine_eq]
      have : k.toNat * z.length = z.length * k.toNat := Nat.mul_comm _ _
      simp
      omega
    exact ⟨hz, .str _, H, I.tok _, ⟨_, rfl⟩, q⟩
def gMul : D → D → Option RV
  | .str z, .int k => if 2 ≤ k ∧ k ≤ 1000 ∧ 1 ≤ z.length ∧ z.length ≤ 1000 then some (.fz (.str (repS z k.toNat))) else none
  | .int i, .int j => if i.natAbs.log2 + j.natAbs.log2 < 1000000 then some (.fz (.int (i * j))) else none
  | .lst xs, .int k => if -(2 ^ 63) ≤ k ∧ k < 2 ^ 63 ∧ xs.length * k.toNat ≤ SZ then some (.fr (List.replicate k.toNat xs).flatten) else none
  | .tup xs, .int k => if xs ≠ [] ∧ 2 ≤ k ∧ k ≤ 1000 ∧ xs.length ≤ 1000 then some (.fz (.tup (List.replicate k.toNat xs).flatten)) else if (xs = [] ∨ k = 1) ∧ -1000 ≤ k ∧ k ≤ 1000 then some (.fz (.tup xs)) else none
  | _, _ => none
theorem o_mul : Op2 X (binaryOp .Mult) gMul := by
  refine ⟨_, op_mulW.or (op_rep.or (op_repN.or (op_repS.or op_rep1T))), fun W H x y dx dy r Q wm hx hy hg k => ?_⟩
  unfold gMul at hg
  split at hg
  · split at hg
    · rename_i hz
      cases hg
      exact .inr (.inr (.inr (.inl ⟨_, _, hx, hy, hz.1, hz.2.1, hz.2.2.1, hz.2.2.2, k.fz wm rfl⟩)))
    · cases hg
  · split at hg
    · rename_i hz
      cases hg
      exact .inl ⟨_, _, hx, hy, hz, k.fz wm rfl⟩
    · cases hg
  · split at hg
    · rename_i xs n hz
      cases hg
      obtain ⟨a, vs, e1, h1, r1⟩ := hx
      exact .inr (.inl ⟨a, n, vs, e1, hy, h1, hz.1, hz.2.1, by rw [SZ_eq, ← r1.length]; exact hz.2.2, k.fr wm (r1.rep _)⟩)
    · cases hg
  · split at hg
    · rename_i xs n hz
      cases hg
      obtain ⟨a, vs, e1, h1, r1⟩ := hx
      refine .inr (.inr (.inl ⟨a, n, vs, e1, hy, h1.1, fun e => ?_, hz.2.1, hz.2.2.1, by rw [← r1.length]; exact hz.2.2.2, k.tup wm (r1.rep _)⟩))
      subst e
      exact hz.1 (List.eq_nil_of_length_eq_zero r1.length)
    · split at hg
      · rename_i xs n hq hz
        cases hg
        obtain ⟨a, vs, e1, h1, r1⟩ := hx
        refine .inr (.inr (.inr (.inr ⟨a, n, vs, e1, hy, h1.1, ?_, hz.2.1, hz.2.2, k.fz wm ⟨a, vs, rfl, h1, r1⟩⟩)))
        rcases hz.1 with e | e
        · subst e
          exact .inl (List.eq_nil_of_length_eq_zero r1.length.symm)
        · exact .inr e
      · cases hg
  · cases hg
@[simp] def gMod : D → D → Option RV
  | .int i, .int j => if 0 < j then some (.fz (.int (i % j))) else none
  | _, _ => none
theorem o_mod : Op2 X (binaryOp .Mod) gMod := by
  refine ⟨_, op_mod, fun W H x y dx dy r Q wm hx hy hg k => ?_⟩
  unfold gMod at hg
  split at hg
  · split at hg
    · rename_i hz
      cases hg
      exact ⟨_, _, hx, hy, hz, k.fz wm rfl⟩
    · cases hg
  · cases hg
@[simp] def gFdiv : D → D → Option RV
  | .int i, .int j => if 0 < j ∧ j.natAbs.log2 < 9000 then some (.fz (.int (i / j))) else none
  | _, _ => none
theorem o_fdiv : Op2 X (binaryOp .FloorDiv) gFdiv := by
  refine ⟨_, op_fdivW, fun W H x y dx dy r Q wm hx hy hg k => ?_⟩
  unfold gFdiv at hg
  split at hg
  · split at hg
    · rename_i hz
      cases hg
      exact ⟨_, _, hx, hy, hz, k.fz wm rfl⟩
    · cases hg
  · cases hg
@[simp] def gPow : D → D → Option RV
  | .int i, .int j => if 0 ≤ j ∧ j ≤ 1000000 ∧ i.natAbs < 2 ^ 64 then some (.fz (.int (i ^ j.toNat))) else none
  | _, _ => none
theorem o_pow : Op2 X (binaryOp .Pow) gPow := by
  refine ⟨_, op_pow, fun W H x y dx dy r Q wm hx hy hg k => ?_⟩
  unfold gPow at hg
  split at hg
  · split at hg
    · rename_i hz
      cases hg
      exact ⟨_, _, hx, hy, hz, k.fz wm rfl⟩
    · cases hg
  · cases hg
@[simp] def gNeg : D → Option RV
  | .int i => some (.fz (.int (-i)))
  | _ => none
theorem o_neg : Op1 X (unaryOp .USub) gNeg := by
  refine ⟨_, un_neg, fun W H x dx r Q wm hx hg k => ?_⟩
  unfold gNeg at hg
  split at hg
  · cases hg
    exact ⟨_, hx, k.fz wm rfl⟩
  · cases hg

/-! ### order of ints -/
@[simp] def gCmp (p : Int → Int → Bool) : D → D → Option RV
  | .int i, .int j => some (.fz (.bl (p i j)))
  | _, _ => none
theorem o_cmp {op : CmpOp} {p : Int → Int → Bool} (h : OpR X (compareOp op) (rI0 fun i j => .bl (p i j))) : Op2 X (compareOp op) (gCmp p) := by
  refine ⟨_, h, fun W H x y dx dy r Q wm hx hy hg k => ?_⟩
  unfold gCmp at hg
  split at hg
  · cases hg
    exact ⟨_, _, hx, hy, k.fz wm rfl⟩
  · cases hg
abbrev gLt := gCmp fun i j => decide (i < j)
abbrev gLe := gCmp fun i j => decide (i ≤ j)
abbrev gGt := gCmp fun i j => decide (j < i)
abbrev gGe := gCmp fun i j => decide (j ≤ i)
theorem o_lt : Op2 X (compareOp .Lt) gLt := o_cmp op_lt
theorem o_le : Op2 X (compareOp .LtE) gLe := o_cmp op_le
theorem o_gt : Op2 X (compareOp .Gt) gGt := o_cmp op_gt
theorem o_ge : Op2 X (compareOp .GtE) gGe := o_cmp op_ge

/-! ### equality -/
mutual
def _root_.DL.D.py : D → PyData
  | .non => .none
  | .bl b => .bool b
  | .int i => .int i
  | .str x => .str x
  | .tup xs => .tuple (pyL xs)
  | .lst xs => .list (pyL xs)
  | .ro xs => .list (pyL xs)
  | .dic _ _ => .dict []
def _root_.DL.pyL : List D → List PyData
  | [] => []
  | d :: ds => d.py :: pyL ds
end
mutual
def _root_.DL.D.okp : D → Bool
  | .non => true
  | .bl _ => true
  | .int _ => true
  | .str _ => true
  | .tup xs => okpL xs
  | .lst xs => okpL xs
  | .ro xs => okpL xs
  | .dic _ _ => false
def _root_.DL.okpL : List D → Bool
  | [] => true
  | d :: ds => d.okp && okpL ds
end
mutual
theorem _root_.DL.Rp.dp {W : List Addr} {K : PySem.W.Frag} {H : Hp} : ∀ (d : D) {v : V}, d.okp = true → Rp W K H d v → Dp K H v d.py
  | .non, v, _, h => by cases (show v = .non from h); exact .non
  | .bl b, v, _, h => by cases (show v = .bl b from h); exact .bl b
  | .int i, v, _, h => by cases (show v = .int i from h); exact .int i
  | .str x, v, _, h => by cases (show v = .str x from h); exact .str x
  | .tup xs, _, o, ⟨a, vs, e, h1, h2⟩ => by subst e; exact .tup h1.1 (RpL.dp xs o h2)
  | .lst xs, _, o, ⟨a, vs, e, h1, h2⟩ => by subst e; exact .lst h1.seq (RpL.dp xs o h2)
  | .ro xs, _, o, ⟨a, vs, e, h1, h2⟩ => by subst e; exact .lst h1.seq (RpL.dp xs o h2)
theorem _root_.DL.RpL.dp {W : List Addr} {K : PySem.W.Frag} {H : Hp} : ∀ (ds : List D) {vs : List V}, okpL ds = true → RpL W K H ds vs → DpAll K H vs (pyL ds)
  | [], vs, _, h => by cases (show vs = [] from h); exact .nil
  | d :: ds, _, o, ⟨v, r, e, h1, h2⟩ => by
    subst e
    obtain ⟨o1, o2⟩ := Bool.and_eq_true_iff.mp (show (d.okp && okpL ds) = true from o)
    exact .cons (Rp.dp d o1 h1) (RpL.dp ds o2 h2)
end
theorem Vz.dp {W : List Addr} {K : PySem.W.Frag} {H : Hp} : ∀ {d : D} {v : V}, d.okp = true → Vz W K H d v → Dp K H v d.py
  | .non, _, o, h => Rp.dp (W := W) .non o h
  | .bl b, _, o, h => Rp.dp (W := W) (.bl b) o h
  | .int i, _, o, h => Rp.dp (W := W) (.int i) o h
  | .str x, _, o, h => Rp.dp (W := W) (.str x) o h
  | .tup xs, _, o, h => Rp.dp (W := W) (.tup xs) o h
  | .ro xs, _, o, h => Rp.dp (W := W) (.ro xs) o h
  | .lst xs, _, o, ⟨a, vs, e, h1, h2⟩ => by subst e; exact .lst (.of h1) (RpL.dp xs o h2)
def eqb (x y : D) : Bool := PyData.eqv x.py y.py
def eqok (x : D) : Bool := x.okp && SeqAt.shaped x.py
def gEq (x y : D) : Option RV := if eqok x = true ∧ eqok y = true then some (.fz (.bl (eqb x y))) else none
def gNe (x y : D) : Option RV := if eqok x = true ∧ eqok y = true then some (.fz (.bl (!eqb x y))) else none
theorem o_eq (hu : X.A.units + 64 < cLine) : Op2 X (compareOp .Eq) gEq := by
  refine ⟨_, op_eqD hu, fun W H x y dx dy r Q wm hx hy hg k => ?_⟩
  unfold gEq at hg
  split at hg
  · rename_i hz
    cases hg
    obtain ⟨a1, a2⟩ := Bool.and_eq_true_iff.mp (show (dx.okp && SeqAt.shaped dx.py) = true from hz.1)
    obtain ⟨b1, b2⟩ := Bool.and_eq_true_iff.mp (show (dy.okp && SeqAt.shaped dy.py) = true from hz.2)
    exact ⟨_, _, hx.dp a1, hy.dp b1, a2, b2, k.fz wm rfl⟩
  · cases hg
theorem o_ne (hu : X.A.units + 64 < cLine) : Op2 X (compareOp .NotEq) gNe := by
  refine ⟨_, op_neD hu, fun W H x y dx dy r Q wm hx hy hg k => ?_⟩
  unfold gNe at hg
  split at hg
  · rename_i hz
    cases hg
    obtain ⟨a1, a2⟩ := Bool.and_eq_true_iff.mp (show (dx.okp && SeqAt.shaped dx.py) = true from hz.1)
    obtain ⟨b1, b2⟩ := Bool.and_eq_true_iff.mp (show (dy.okp && SeqAt.shaped dy.py) = true from hz.2)
    exact ⟨_, _, hx.dp a1, hy.dp b1, a2, b2, k.fz wm rfl⟩
  · cases hg

/-! ### in; is None -/
def occ (x z : Str) : Bool := match x.cps.toList with
  | [c] => decide (c ∈ z.cps.toList)
  | _ => !(Builtin.Str.occurrences z x 0 z.length 1).isEmpty
def inb (x : D) (ys : List D) : Bool := (pyL ys).any fun z => PyData.eqv z x.py
def gInL (n : Bool) (x : D) (ys : List D) : Option RV := if eqok x = true ∧ eqok (.lst ys) = true then some (.fz (.bl (if n = true then !inb x ys else inb x ys))) else none
def gInT (n : Bool) (x : D) (ys : List D) : Option RV := if eqok x = true ∧ eqok (.tup ys) = true then some (.fz (.bl (if n = true then !inb x ys else inb x ys))) else none
def gInS (n : Bool) (z : Str) : D → Option RV
  | .str x => some (.fz (.bl (if n = true then !occ x z else occ x z)))
  | _ => none
def gInW (n : Bool) (x : D) : D → Option RV
  | .str z => gInS n z x
  | .lst ys => gInL n x ys
  | .ro ys => gInL n x ys
  | .tup ys => gInT n x ys
  | _ => none
abbrev gIn := gInW false
abbrev gNotIn := gInW true
theorem str_one {x : Str} {c : Nat} (h : x.cps.toList = [c]) : x = ⟨#[c]⟩ := by
  obtain ⟨a⟩ := x
  have e : a = #[c] := by rw [← Array.toArray_toList (xs := a), show a.toList = [c] from h]
  rw [e]
theorem o_in (hu : X.A.units + 65 < cLine) : Op2 X (compareOp .In) gIn := by
  refine ⟨_, op_in_sign.or (op_in_str.or ((op_inD hu).or (op_inDT hu))), fun W H x y dx dy r Q wm hx hy hg k => ?_⟩
  cases dy with
  | str z =>
    have hg : gInS false z dx = some r := hg
    cases dx with
    | str s =>
      cases hg
      simp only [Bool.false_eq_true, if_false] at k
      unfold occ at k
      split at k
      · rename_i c hc
        have e := str_one hc
        subst e
        exact .inl ⟨_, _, hx, hy, k.fz wm rfl⟩
      · exact .inr (.inl ⟨_, _, hx, hy, k.fz wm rfl⟩)
    | _ => cases hg
  | lst ys =>
    have hg : gInL false dx ys = some r := hg
    unfold gInL at hg
    split at hg
    · rename_i hz
      cases hg
      obtain ⟨a1, a2⟩ := Bool.and_eq_true_iff.mp (show (dx.okp && SeqAt.shaped dx.py) = true from hz.1)
      obtain ⟨b1, b2⟩ := Bool.and_eq_true_iff.mp (show ((D.lst ys).okp && SeqAt.shaped (D.lst ys).py) = true from hz.2)
      exact .inr (.inr (.inl ⟨_, _, hx.dp a1, Vz.dp (d := .lst ys) b1 hy, a2, b2, k.fz wm rfl⟩))
    · cases hg
  | ro ys =>
    have hg : gInL false dx ys = some r := hg
    unfold gInL at hg
    split at hg
    · rename_i hz
      cases hg
      obtain ⟨a1, a2⟩ := Bool.and_eq_true_iff.mp (show (dx.okp && SeqAt.shaped dx.py) = true from hz.1)
      obtain ⟨b1, b2⟩ := Bool.and_eq_true_iff.mp (show ((D.lst ys).okp && SeqAt.shaped (D.lst ys).py) = true from hz.2)
      exact .inr (.inr (.inl ⟨_, _, hx.dp a1, Vz.dp (d := .ro ys) b1 hy, a2, b2, k.fz wm rfl⟩))
    · cases hg
  | tup ys =>
    have hg : gInT false dx ys = some r := hg
    unfold gInT at hg
    split at hg
    · rename_i hz
      cases hg
      obtain ⟨a1, a2⟩ := Bool.and_eq_true_iff.mp (show (dx.okp && SeqAt.shaped dx.py) = true from hz.1)
      obtain ⟨b1, b2⟩ := Bool.and_eq_true_iff.mp (show ((D.tup ys).okp && SeqAt.shaped (D.tup ys).py) = true from hz.2)
      exact .inr (.inr (.inr ⟨_, _, hx.dp a1, Vz.dp (d := .tup ys) b1 hy, a2, b2, k.fz wm rfl⟩))
    · cases hg
  | _ => cases hg
theorem o_notIn (hu : X.A.units + 65 < cLine) : Op2 X (compareOp .NotIn) gNotIn := by
  refine ⟨_, op_notIn_sign.or (op_notIn_str.or ((op_notInD hu).or (op_notInDT hu))), fun W H x y dx dy r Q wm hx hy hg k => ?_⟩
  cases dy with
  | str z =>
    have hg : gInS true z dx = some r := hg
    cases dx with
    | str s =>
      cases hg
      simp only [if_true] at k
      unfold occ at k
      split at k
      · rename_i c hc
        have e := str_one hc
        subst e
        exact .inl ⟨_, _, hx, hy, k.fz wm rfl⟩
      · exact .inr (.inl ⟨_, _, hx, hy, k.fz wm rfl⟩)
    | _ => cases hg
  | lst ys =>
    have hg : gInL true dx ys = some r := hg
    unfold gInL at hg
    split at hg
    · rename_i hz
      cases hg
      obtain ⟨a1, a2⟩ := Bool.and_eq_true_iff.mp (show (dx.okp && SeqAt.shaped dx.py) = true from hz.1)
      obtain ⟨b1, b2⟩ := Bool.and_eq_true_iff.mp (show ((D.lst ys).okp && SeqAt.shaped (D.lst ys).py) = true from hz.2)
      exact .inr (.inr (.inl ⟨_, _, hx.dp a1, Vz.dp (d := .lst ys) b1 hy, a2, b2, k.fz wm rfl⟩))
    · cases hg
  | ro ys =>
    have hg : gInL true dx ys = some r := hg
    unfold gInL at hg
    split at hg
    · rename_i hz
      cases hg
      obtain ⟨a1, a2⟩ := Bool.and_eq_true_iff.mp (show (dx.okp && SeqAt.shaped dx.py) = true from hz.1)
      obtain ⟨b1, b2⟩ := Bool.and_eq_true_iff.mp (show ((D.lst ys).okp && SeqAt.shaped (D.lst ys).py) = true from hz.2)
      exact .inr (.inr (.inl ⟨_, _, hx.dp a1, Vz.dp (d := .ro ys) b1 hy, a2, b2, k.fz wm rfl⟩))
    · cases hg
  | tup ys =>
    have hg : gInT true dx ys = some r := hg
    unfold gInT at hg
    split at hg
    · rename_i hz
      cases hg
      obtain ⟨a1, a2⟩ := Bool.and_eq_true_iff.mp (show (dx.okp && SeqAt.shaped dx.py) = true from hz.1)
      obtain ⟨b1, b2⟩ := Bool.and_eq_true_iff.mp (show ((D.tup ys).okp && SeqAt.shaped (D.tup ys).py) = true from hz.2)
      exact .inr (.inr (.inr ⟨_, _, hx.dp a1, Vz.dp (d := .tup ys) b1 hy, a2, b2, k.fz wm rfl⟩))
    · cases hg
  | _ => cases hg
@[simp] def D.isNon : D → Bool
  | .non => true
  | _ => false
theorem isNon_ok {W : List Addr} {K : PySem.W.Frag} {H : Hp} : ∀ {d : D} {v : V}, Vz W K H d v → decide (v = .non) = d.isNon
  | .non, _, h => by cases h; rfl
  | .bl b, v, h => by cases (show v = .bl b from h); rfl
  | .int b, v, h => by cases (show v = .int b from h); rfl
  | .str b, v, h => by cases (show v = .str b from h); rfl
  | .tup xs, _, ⟨a, vs, e, _⟩ => by subst e; rfl
  | .lst xs, _, ⟨a, vs, e, _⟩ => by subst e; rfl
  | .ro xs, _, ⟨a, vs, e, _⟩ => by subst e; rfl
  | .dic ks xs, _, ⟨a, vs, e, _⟩ => by subst e; rfl
@[simp] def gIsW (n : Bool) : D → D → Option RV
  | x, .non => some (.fz (.bl (if n = true then !x.isNon else x.isNon)))
  | _, _ => none
abbrev gIs := gIsW false
abbrev gIsNot := gIsW true
theorem o_is : Op2 X (compareOp .Is) gIs := by
  refine ⟨_, op_isN, fun W H x y dx dy r Q wm hx hy hg k => ?_⟩
  unfold gIs gIsW at hg
  split at hg
  · cases hg
    refine ⟨hy, ?_⟩
    rw [isNon_ok hx]
    exact k.fz wm rfl
  · cases hg
theorem o_isNot : Op2 X (compareOp .IsNot) gIsNot := by
  refine ⟨_, op_notN, fun W H x y dx dy r Q wm hx hy hg k => ?_⟩
  unfold gIsNot gIsW at hg
  split at hg
  · cases hg
    refine ⟨hy, ?_⟩
    rw [isNon_ok hx]
    exact k.fz wm rfl
  · cases hg
end
end DL

set_option maxHeartbeats 2000000
namespace DL
open PySem PySem.Spec PyProof.Rows L2

theorem Rp.weak {W W' : List Addr} {K : PySem.W.Frag} {H : Hp} (s : ∀ a ∈ W, a ∈ W') (wm : WM W H) {d : D} {v : V} (h : Rp W' K H d v) (wm' : WM W' H) : Rp W K H d v :=
  Rp.mono (W := W') (H := H) ⟨wm', fun a o e n => ⟨e, fun z => n (s a z)⟩⟩ d h
theorem RpL.weak {W W' : List Addr} {K : PySem.W.Frag} {H : Hp} (s : ∀ a ∈ W, a ∈ W') (wm' : WM W' H) {ds : List D} {vs : List V} (h : RpL W' K H ds vs) : RpL W K H ds vs :=
  RpL.mono (W := W') (H := H) ⟨wm', fun a o e n => ⟨e, fun z => n (s a z)⟩⟩ ds h
theorem Grow.base {W W' : List Addr} {H H' : Hp} (g : Grow W H W' H') (wm : WM W H) : Grow W H W H' := .of wm g.keep

section
variable {X : Cx}

/-! ## names and constants -/
@[simp] def pName (i : Nat) : FP := fun e => match e[i]? with
  | some (some (.d x)) => some (.fz x)
  | some (some (.lst xs)) => some (.ow xs)
  | _ => none
@[simp] def pCon (d : D) : FP := fun _ => some (.fz d)
theorem pp_name (i : Nat) {x : Str} {pos : Pos} (hN : X.N[i]? = some x := by rfl) (hv : Vis X.env.scope x := by first | exact Or.inl rfl | exact Or.inr (Or.inl rfl) | exact Or.inr (Or.inr rfl)) (hd : (x == ("__debug__" : Str)) = false := by decide)
    (hcd : (x == ("__classdict__" : Str)) = false := by decide) : PP X (.Name x pos) (pName i) := by
  refine PP.of ⟨tVar i, pe_var hN hv hd hcd, fun W H σ e Q r sr hf k => ?_⟩
  unfold pName at hf
  split at hf
  · rename_i y hy
    cases hf
    obtain ⟨v, h1, h2⟩ := sr.sl i _ hy
    exact ⟨v, h1, k v W H (.refl sr.wm) h2⟩
  · rename_i ys hy
    cases hf
    obtain ⟨v, h1, h2⟩ := sr.sl i _ hy
    exact ⟨v, h1, k v W H (.refl sr.wm) h2⟩
  · cases hf
theorem pp_con {ex : Expr} {d : D} {v : V} (h : PE X ex (tC v)) (hr : ∀ W H, Rp W X.K H d v) : PP X ex (pCon d) :=
  PP.of ⟨_, h, fun W H σ e Q r sr hf k => by cases hf; exact k v W H (.refl sr.wm) (hr W H)⟩
theorem pp_int {i j pos} : PP X (.Constant (.int i) j pos) (pCon (.int i)) := pp_con pe_int fun _ _ => rfl
theorem pp_bl {b j pos} : PP X (.Constant (.bool b) j pos) (pCon (.bl b)) := pp_con pe_bl fun _ _ => rfl
theorem pp_non {j pos} : PP X (.Constant .none j pos) (pCon .non) := pp_con pe_non fun _ _ => rfl
theorem pp_str {x j pos} : PP X (.Constant (.str x) j pos) (pCon (.str x)) := pp_con pe_str fun _ _ => rfl
theorem pp_glob {x : Str} {d : D} {v : V} {u : Value} {pos : Pos} (hm : X.mg x = some u) (r : RelV v u) (hr : ∀ W H, Rp W X.K H d v) (hg : Gl X x := by rfl) (hd : (x == ("__debug__" : Str)) = false := by decide) : PP X (.Name x pos) (pCon d) :=
  pp_con (pe_glob hg hm r hd) hr

/-! ## operators -/
@[simp] def p2 (g : D → D → Option RV) (fa fb : FP) : FP := fun e => (fa e).bind fun a => (fb e).bind fun b => g a.view b.view
@[simp] def p1 (g : D → Option RV) (fa : FP) : FP := fun e => (fa e).bind fun a => g a.view
variable {a b c : Expr} {fa fb fc : FP} {pos : Pos}
theorem pp_bin {op : Operator} {g : D → D → Option RV} (ho : Op2 X (binaryOp op) g) (ha : PP X a fa) (hb : PP X b fb) : PP X (.BinOp a op b pos) (p2 g fa fb) := by
  obtain ⟨rl, h1, h2⟩ := ho.run
  obtain ⟨ta, pa, ka⟩ := ha.run
  obtain ⟨tb, pb, kb⟩ := hb.run
  refine PP.of ⟨_, pe_op h1 pa pb, fun W H σ e Q r sr hf k => ?_⟩
  obtain ⟨ra, ea, hf⟩ := Option.bind_eq_some_iff.mp hf
  obtain ⟨rb, eb, hf⟩ := Option.bind_eq_some_iff.mp hf
  exact ka W H σ e _ ra sr ea fun x W1 H1 g1 k1 => kb W1 H1 σ e _ rb (g1.sr sr) eb fun y W2 H2 g2 k2 =>
    h2 W2 H2 x y _ _ r Q g2.wm (k1.vz.grow g2 g1.wm) k2.vz hf fun v W' H' g3 k3 => k v W' H' ((g1.trans g2).trans g3) (k3.back fun a h => g1.fresh (g2.fresh h))
theorem pp_un {op : UnaryOp} {g : D → Option RV} (ho : Op1 X (unaryOp op) g) (ha : PP X a fa) : PP X (.UnaryOp op a pos) (p1 g fa) := by
  obtain ⟨rl, h1, h2⟩ := ho.run
  obtain ⟨ta, pa, ka⟩ := ha.run
  refine PP.of ⟨_, pe_un h1 pa, fun W H σ e Q r sr hf k => ?_⟩
  obtain ⟨ra, ea, hf⟩ := Option.bind_eq_some_iff.mp hf
  exact ka W H σ e _ ra sr ea fun x W1 H1 g1 k1 => h2 W1 H1 x _ r Q g1.wm k1.vz hf fun v W' H' g3 k3 => k v W' H' (g1.trans g3) (k3.back fun a h => g1.fresh h)
theorem pp_cmp {op : CmpOp} {g : D → D → Option RV} (ho : Op2 X (compareOp op) g) (ha : PP X a fa) (hb : PP X b fb) (hm : behindInMarks op b = false := by first | exact nomark _ | with_unfolding_all rfl) : PP X (.Compare a [op] [b] pos) (p2 g fa fb) := by
  obtain ⟨rl, h1, h2⟩ := ho.run
  obtain ⟨ta, pa, ka⟩ := ha.run
  obtain ⟨tb, pb, kb⟩ := hb.run
  refine PP.of ⟨_, pe_cmpR h1 pa pb hm, fun W H σ e Q r sr hf k => ?_⟩
  obtain ⟨ra, ea, hf⟩ := Option.bind_eq_some_iff.mp hf
  obtain ⟨rb, eb, hf⟩ := Option.bind_eq_some_iff.mp hf
  exact ka W H σ e _ ra sr ea fun x W1 H1 g1 k1 => kb W1 H1 σ e _ rb (g1.sr sr) eb fun y W2 H2 g2 k2 =>
    h2 W2 H2 x y _ _ r Q g2.wm (k1.vz.grow g2 g1.wm) k2.vz hf fun v W' H' g3 k3 => k v W' H' ((g1.trans g2).trans g3) (k3.back fun a h => g1.fresh (g2.fresh h))
/-- a truth value -/
@[simp] def RV.b? : RV → Option Bool
  | .fz (.bl b) => some b
  | _ => none
theorem RV.b?_ok {r : RV} {b : Bool} (h : r.b? = some b) : r = .fz (.bl b) := by
  unfold RV.b? at h
  split at h
  · cases h; rfl
  · cases h
@[simp] def pChain (g g' : D → D → Option RV) (fa fb fc : FP) : FP := fun e => (fa e).bind fun a => (fb e).bind fun b => (g a.view b.view).bind fun r => r.b?.bind fun q => if q = true then (fc e).bind fun c => g' b.view c.view else some (.fz (.bl false))
theorem pp_chain {op op' : CmpOp} {g g' : D → D → Option RV} (ho : Op2 X (compareOp op) g) (ho' : Op2 X (compareOp op') g') (ha : PP X a fa) (hb : PP X b fb) (hc : PP X c fc)
    (hm : lastMarks [op, op'] [b, c] = false := by with_unfolding_all rfl) : PP X (.Compare a [op, op'] [b, c] pos) (pChain g g' fa fb fc) := by
  obtain ⟨rl, h1, h2⟩ := ho.run
  obtain ⟨rl', h1', h2'⟩ := ho'.run
  obtain ⟨ta, pa, ka⟩ := ha.run
  obtain ⟨tb, pb, kb⟩ := hb.run
  obtain ⟨tc, pc, kc⟩ := hc.run
  refine PP.of ⟨_, pe_chain h1 h1' pa pb pc hm, fun W H σ e Q r sr hf k => ?_⟩
  obtain ⟨ra, ea, hf⟩ := Option.bind_eq_some_iff.mp hf
  obtain ⟨rb, eb, hf⟩ := Option.bind_eq_some_iff.mp hf
  obtain ⟨r1, e1, hf⟩ := Option.bind_eq_some_iff.mp hf
  obtain ⟨q, e2, hy⟩ := Option.bind_eq_some_iff.mp hf
  have e3 := RV.b?_ok e2
  subst e3
  refine ka W H σ e _ ra sr ea fun x W1 H1 g1 k1 => kb W1 H1 σ e _ rb (g1.sr sr) eb fun y W2 H2 g2 k2 =>
    h2 W2 H2 x y _ _ _ _ g2.wm (k1.vz.grow g2 g1.wm) k2.vz e1 fun v W3 H3 g3 k3 => ⟨q, k3, ?_⟩
  have g13 := (g1.trans g2).trans g3
  cases q with
  | false =>
    cases hy
    exact k _ W3 H3 g13 rfl
  | true =>
    obtain ⟨rc, ec, hy⟩ := Option.bind_eq_some_iff.mp hy
    show tc σ H3 _
    exact kc W3 H3 σ e _ rc (g13.sr sr) ec fun z W4 H4 g4 k4 => h2' W4 H4 y z _ _ r Q g4.wm (k2.vz.grow (g3.trans g4) g2.wm) k4.vz hy fun v W' H' g5 k5 => k v W' H' ((g13.trans g4).trans g5) (k5.back fun a h => g13.fresh (g4.fresh h))

/-! ## tests -/
@[simp] def tVal (fa : FP) : FT := fun e => (fa e).bind RV.b?
theorem tp_val (ha : PP X a fa) (he : ∀ whole, isTrue a X.env whole = (do let v ← whole; standAt a.pos; holding [v] (truthy v)) := by intro _; rfl) : TP X a (tVal fa) := by
  obtain ⟨ta, pa, ka⟩ := ha.run
  refine TP.of ⟨_, pt_val pa he, fun W H σ e Q q sr hf k => ?_⟩
  obtain ⟨r, er, hf⟩ := Option.bind_eq_some_iff.mp hf
  have e3 := RV.b?_ok hf
  subst e3
  exact ka W H σ e _ _ sr er fun v W' H' g h => ⟨q, h, k W' H' g⟩
theorem tp_cmp {op : CmpOp} {g : D → D → Option RV} (ho : Op2 X (compareOp op) g) (ha : PP X a fa) (hb : PP X b fb) (hm : behindInMarks op b = false := by first | exact nomark _ | with_unfolding_all rfl) : TP X (.Compare a [op] [b] pos) (tVal (p2 g fa fb)) := by
  obtain ⟨rl, h1, h2⟩ := ho.run
  obtain ⟨ta, pa, ka⟩ := ha.run
  obtain ⟨tb, pb, kb⟩ := hb.run
  refine TP.of ⟨_, pt_cmpR h1 pa pb hm, fun W H σ e Q q sr hf k => ?_⟩
  obtain ⟨r, hf, er⟩ := Option.bind_eq_some_iff.mp hf
  have e3 := RV.b?_ok er
  subst e3
  obtain ⟨ra, ea, hf⟩ := Option.bind_eq_some_iff.mp hf
  obtain ⟨rb, eb, hf⟩ := Option.bind_eq_some_iff.mp hf
  exact ka W H σ e _ ra sr ea fun x W1 H1 g1 k1 => kb W1 H1 σ e _ rb (g1.sr sr) eb fun y W2 H2 g2 k2 =>
    h2 W2 H2 x y _ _ _ _ g2.wm (k1.vz.grow g2 g1.wm) k2.vz hf fun v W' H' g3 k3 => ⟨q, k3, k W' H' ((g1.trans g2).trans g3)⟩
theorem tp_chain {op op' : CmpOp} {g g' : D → D → Option RV} (ho : Op2 X (compareOp op) g) (ho' : Op2 X (compareOp op') g') (ha : PP X a fa) (hb : PP X b fb) (hc : PP X c fc)
    (hm : lastMarks [op, op'] [b, c] = false := by with_unfolding_all rfl) : TP X (.Compare a [op, op'] [b, c] pos) (tVal (pChain g g' fa fb fc)) := by
  obtain ⟨rl, h1, h2⟩ := ho.run
  obtain ⟨rl', h1', h2'⟩ := ho'.run
  obtain ⟨ta, pa, ka⟩ := ha.run
  obtain ⟨tb, pb, kb⟩ := hb.run
  obtain ⟨tc, pc, kc⟩ := hc.run
  refine TP.of ⟨_, pt_chain h1 h1' pa pb pc hm, fun W H σ e Q qq sr hf k => ?_⟩
  obtain ⟨r, hf, er⟩ := Option.bind_eq_some_iff.mp hf
  have e4 := RV.b?_ok er
  subst e4
  obtain ⟨ra, ea, hf⟩ := Option.bind_eq_some_iff.mp hf
  obtain ⟨rb, eb, hf⟩ := Option.bind_eq_some_iff.mp hf
  obtain ⟨r1, e1, hf⟩ := Option.bind_eq_some_iff.mp hf
  obtain ⟨q, e2, hy⟩ := Option.bind_eq_some_iff.mp hf
  have e3 := RV.b?_ok e2
  subst e3
  refine ka W H σ e _ ra sr ea fun x W1 H1 g1 k1 => kb W1 H1 σ e _ rb (g1.sr sr) eb fun y W2 H2 g2 k2 =>
    h2 W2 H2 x y _ _ _ _ g2.wm (k1.vz.grow g2 g1.wm) k2.vz e1 fun v W3 H3 g3 k3 => ⟨q, k3, ?_⟩
  have g13 := (g1.trans g2).trans g3
  cases q with
  | false =>
    cases hy
    exact ⟨false, rfl, k W3 H3 g13⟩
  | true =>
    obtain ⟨rc, ec, hy⟩ := Option.bind_eq_some_iff.mp hy
    show tc σ H3 _
    exact kc W3 H3 σ e _ rc (g13.sr sr) ec fun z W4 H4 g4 k4 => h2' W4 H4 y z _ _ _ _ g4.wm (k2.vz.grow (g3.trans g4) g2.wm) k4.vz hy fun v W' H' g5 k5 => ⟨qq, k5, k W' H' ((g13.trans g4).trans g5)⟩
/-- and, or chains -/
structure WP (X : Cx) (ex : Expr) (f : FT) : Prop where
  pw : PW X ex (tT X.K f)
theorem WP.of {X : Cx} {ex : Expr} {f : FT} (h : ∃ t : TT, PW X ex t ∧ ∀ (W : List Addr) (H : Hp) (σ : St) (e : En) (Q : Bool → Hp → Prop) (b : Bool), SR W X.K H σ e → f e = some b →
    (∀ W' H', Grow W H W' H' → Q b H') → t σ H Q) : WP X ex f :=
  let ⟨_, p, k⟩ := h; ⟨⟨fun wh pins s σ H Q I ⟨W, e, r, a, b, c⟩ => p.run wh pins s σ H Q I (k W H σ e Q r a b c)⟩⟩
theorem WP.run {X : Cx} {ex : Expr} {f : FT} (h : WP X ex f) : ∃ t : TT, PW X ex t ∧ ∀ (W : List Addr) (H : Hp) (σ : St) (e : En) (Q : Bool → Hp → Prop) (b : Bool), SR W X.K H σ e → f e = some b →
    (∀ W' H', Grow W H W' H' → Q b H') → t σ H Q := ⟨_, h.pw, fun W H σ e Q r a b c => ⟨W, e, r, a, b, c⟩⟩
@[simp] def tAnd (fa fb : FT) : FT := fun e => (fa e).bind fun q => if q = true then fb e else some false
@[simp] def tOr (fa fb : FT) : FT := fun e => (fa e).bind fun q => if q = true then some true else fb e
@[simp] def tNot (fa : FT) : FT := fun e => (fa e).map not
variable {ta tb : FT} {rest : List Expr}
theorem wp_and1 (ha : TP X a ta) : WP X (.BoolOp .And [a] pos) ta := let ⟨t, p, k⟩ := ha.run; WP.of ⟨t, pw_and1 p, k⟩
theorem wp_or1 (ha : TP X a ta) : WP X (.BoolOp .Or [a] pos) ta := let ⟨t, p, k⟩ := ha.run; WP.of ⟨t, pw_or1 p, k⟩
theorem WP.tp {ex : Expr} {f : FT} (h : WP X ex f) : TP X ex f := ⟨h.pw.pt⟩
theorem wp_and (ha : TP X a ta) (hb : WP X (.BoolOp .And (b :: rest) pos) tb) : WP X (.BoolOp .And (a :: b :: rest) pos) (tAnd ta tb) := by
  obtain ⟨t, p, ka⟩ := ha.run
  obtain ⟨u, p', kb⟩ := hb.run
  refine WP.of ⟨_, pw_and p p', fun W H σ e Q q sr hf k => ?_⟩
  obtain ⟨q1, e1, hf⟩ := Option.bind_eq_some_iff.mp hf
  refine ka W H σ e _ q1 sr e1 fun W1 H1 g1 => ?_
  cases q1 with
  | true => exact kb W1 H1 σ e Q q (g1.sr sr) hf fun W' H' g2 => k W' H' (g1.trans g2)
  | false => cases hf; exact k W1 H1 g1
theorem wp_or (ha : TP X a ta) (hb : WP X (.BoolOp .Or (b :: rest) pos) tb) : WP X (.BoolOp .Or (a :: b :: rest) pos) (tOr ta tb) := by
  obtain ⟨t, p, ka⟩ := ha.run
  obtain ⟨u, p', kb⟩ := hb.run
  refine WP.of ⟨_, pw_or p p', fun W H σ e Q q sr hf k => ?_⟩
  obtain ⟨q1, e1, hf⟩ := Option.bind_eq_some_iff.mp hf
  refine ka W H σ e _ q1 sr e1 fun W1 H1 g1 => ?_
  cases q1 with
  | false => exact kb W1 H1 σ e Q q (g1.sr sr) hf fun W' H' g2 => k W' H' (g1.trans g2)
  | true => cases hf; exact k W1 H1 g1
theorem tp_not (ha : TP X a ta) : TP X (.UnaryOp .Not a pos) (tNot ta) := by
  obtain ⟨t, p, ka⟩ := ha.run
  refine TP.of ⟨_, pt_not p, fun W H σ e Q q sr hf k => ?_⟩
  obtain ⟨q1, e1, hf⟩ := Option.map_eq_some_iff.mp hf
  subst hf
  exact ka W H σ e _ q1 sr e1 fun W1 H1 g1 => k W1 H1 g1
/-! as values -/
@[simp] def pAnd (fa fb : FP) : FP := fun e => (fa e).bind fun r => r.b?.bind fun q => if q = true then fb e else some (.fz (.bl false))
@[simp] def pOr (fa fb : FP) : FP := fun e => (fa e).bind fun r => r.b?.bind fun q => if q = true then some (.fz (.bl true)) else fb e
@[simp] def pNot (fa : FP) : FP := fun e => (fa e).bind fun r => r.b?.map fun q => .fz (.bl (!q))
theorem pp_one {op} (h : PP X a fa) : PP X (.BoolOp op [a] pos) fa := let ⟨t, p, k⟩ := h.run; PP.of ⟨t, pe_one p, k⟩
theorem pp_and (ha : PP X a fa) (hb : PP X (.BoolOp .And (b :: rest) pos) fb) : PP X (.BoolOp .And (a :: b :: rest) pos) (pAnd fa fb) := by
  obtain ⟨t, p, ka⟩ := ha.run
  obtain ⟨u, p', kb⟩ := hb.run
  refine PP.of ⟨_, pe_and p p', fun W H σ e Q r sr hf k => ?_⟩
  obtain ⟨r1, e1, hf⟩ := Option.bind_eq_some_iff.mp hf
  obtain ⟨q, e2, hy⟩ := Option.bind_eq_some_iff.mp hf
  have e3 := RV.b?_ok e2
  subst e3
  refine ka W H σ e _ _ sr e1 fun v W1 H1 g1 k1 => ⟨q, k1, ?_⟩
  cases q with
  | true => exact kb W1 H1 σ e Q r (g1.sr sr) hy fun v W' H' g2 k2 => k v W' H' (g1.trans g2) (k2.back fun a h => g1.fresh h)
  | false => cases hy; exact k _ W1 H1 g1 rfl
theorem pp_or (ha : PP X a fa) (hb : PP X (.BoolOp .Or (b :: rest) pos) fb) : PP X (.BoolOp .Or (a :: b :: rest) pos) (pOr fa fb) := by
  obtain ⟨t, p, ka⟩ := ha.run
  obtain ⟨u, p', kb⟩ := hb.run
  refine PP.of ⟨_, pe_or p p', fun W H σ e Q r sr hf k => ?_⟩
  obtain ⟨r1, e1, hf⟩ := Option.bind_eq_some_iff.mp hf
  obtain ⟨q, e2, hy⟩ := Option.bind_eq_some_iff.mp hf
  have e3 := RV.b?_ok e2
  subst e3
  refine ka W H σ e _ _ sr e1 fun v W1 H1 g1 k1 => ⟨q, k1, ?_⟩
  cases q with
  | false => exact kb W1 H1 σ e Q r (g1.sr sr) hy fun v W' H' g2 k2 => k v W' H' (g1.trans g2) (k2.back fun a h => g1.fresh h)
  | true => cases hy; exact k _ W1 H1 g1 rfl
theorem pp_not (ha : PP X a fa) : PP X (.UnaryOp .Not a pos) (pNot fa) := by
  obtain ⟨t, p, ka⟩ := ha.run
  refine PP.of ⟨_, pe_not p, fun W H σ e Q r sr hf k => ?_⟩
  obtain ⟨r1, e1, hf⟩ := Option.bind_eq_some_iff.mp hf
  obtain ⟨q, e2, hy⟩ := Option.map_eq_some_iff.mp hf
  have e3 := RV.b?_ok e2
  subst e3
  subst hy
  exact ka W H σ e _ _ sr e1 fun v W1 H1 g1 k1 => ⟨q, k1, k _ W1 H1 g1 rfl⟩
@[simp] def pIf (t : FT) (fa fb : FP) : FP := fun e => (t e).bind fun q => if q = true then fa e else fb e
theorem pp_if (hc : TP X c ta) (ha : PP X a fa) (hb : PP X b fb) : PP X (.IfExp c a b pos) (pIf ta fa fb) := by
  obtain ⟨t, p, kc⟩ := hc.run
  obtain ⟨ua, pa, ka⟩ := ha.run
  obtain ⟨ub, pb, kb⟩ := hb.run
  refine PP.of ⟨_, pe_ifExp p pa pb, fun W H σ e Q r sr hf k => ?_⟩
  obtain ⟨q, e1, hf⟩ := Option.bind_eq_some_iff.mp hf
  refine kc W H σ e _ q sr e1 fun W1 H1 g1 => ?_
  cases q with
  | true => exact ka W1 H1 σ e Q r (g1.sr sr) hf fun v W' H' g2 k2 => k v W' H' (g1.trans g2) (k2.back fun a h => g1.fresh h)
  | false => exact kb W1 H1 σ e Q r (g1.sr sr) hf fun v W' H' g2 k2 => k v W' H' (g1.trans g2) (k2.back fun a h => g1.fresh h)

/-! ## argument lists, displays -/
variable {es : List Expr} {fs : En → Option (List RV)}
@[simp] def aNil : En → Option (List RV) := fun _ => some []
@[simp] def aCons (fa : FP) (fs : En → Option (List RV)) : En → Option (List RV) := fun e => (fa e).bind fun a => (fs e).map fun rs => a :: rs
theorem aa_nil : PPs X [] aNil := PPs.of ⟨_, pa_nil, fun W H σ e Q rs sr hf k => by cases hf; exact k [] W H (.refl sr.wm) rfl⟩
theorem aa_cons (ha : PP X a fa) (hr : PPs X es fs) (hs : starEach (a :: es) X.env = (false, eval a X.env) :: starEach es X.env := by rfl) : PPs X (a :: es) (aCons fa fs) := by
  obtain ⟨t, p, ka⟩ := ha.run
  obtain ⟨u, p', kb⟩ := hr.run
  refine PPs.of ⟨_, pa_cons p p' hs, fun W H σ e Q rs sr hf k => ?_⟩
  obtain ⟨r1, e1, hf⟩ := Option.bind_eq_some_iff.mp hf
  obtain ⟨r2, e2, hf⟩ := Option.map_eq_some_iff.mp hf
  subst hf
  exact ka W H σ e _ r1 sr e1 fun v W1 H1 g1 k1 => kb W1 H1 σ e _ r2 (g1.sr sr) e2 fun vs W' H' g2 k2 => k _ W' H' (g1.trans g2) ⟨v, vs, rfl, k1.grow g2 g1.wm, k2.back fun a h => g1.fresh h⟩
/-- what may be put into a container -/
@[simp] def RV.item : RV → Option D
  | .fz x => some x
  | .fr xs => some (.lst xs)
  | .ow _ => none
@[simp] def items : List RV → Option (List D)
  | [] => some []
  | r :: rs => r.item.bind fun x => (items rs).map fun xs => x :: xs
theorem RVok.item {W W' : List Addr} {K : PySem.W.Frag} {H H' : Hp} (g : Grow W H W' H') (wm : WM W H) : ∀ {r : RV} {v : V} {x : D}, RVok W' K H H' r v → r.item = some x → Rp W K H' x v
  | .fz y, v, x, h, e => by cases e; exact Rp.weak g.sub (g.base wm).wm h g.wm
  | .fr ys, v, x, h, e => by
    cases e
    obtain ⟨a, vs, e, h0, h1, h2, h3⟩ := h
    exact ⟨a, vs, e, ⟨h2, fun z => isSome_of_mut (wm a z) h0⟩, RpL.weak g.sub g.wm h3⟩
theorem RVs.items {W W' : List Addr} {K : PySem.W.Frag} {H H' : Hp} (g : Grow W H W' H') (wm : WM W H) : ∀ {rs : List RV} {vs : List V} {xs : List D}, RVs W' K H H' rs vs → DL.items rs = some xs → RpL W K H' xs vs
  | [], vs, xs, h, e => by cases e; exact h
  | r :: rs, _, xs, ⟨v, us, ev, h1, h2⟩, e => by
    obtain ⟨x, e1, e⟩ := Option.bind_eq_some_iff.mp e
    obtain ⟨ys, e2, e⟩ := Option.map_eq_some_iff.mp e
    subst e
    exact ⟨v, us, ev, h1.item g wm e1, RVs.items g wm h2 e2⟩
@[simp] def pTup (fs : En → Option (List RV)) : FP := fun e => (fs e).bind fun rs => (items rs).bind fun xs => if xs.length ≤ SZ then some (.fz (.tup xs)) else none
@[simp] def pLst (fs : En → Option (List RV)) : FP := fun e => (fs e).bind fun rs => (items rs).bind fun xs => if xs.length ≤ SZ then some (.fr xs) else none
theorem pp_tup {x1} (h : PPs X es fs) : PP X (.Tuple es x1 pos) (pTup fs) := by
  obtain ⟨t, p, ka⟩ := h.run
  refine PP.of ⟨_, pe_tupN p, fun W H σ e Q r sr hf k => ?_⟩
  obtain ⟨rs, e1, hf⟩ := Option.bind_eq_some_iff.mp hf
  obtain ⟨xs, e2, hf⟩ := Option.bind_eq_some_iff.mp hf
  split at hf
  · rename_i hz
    cases hf
    refine ka W H σ e _ rs sr e1 fun vs W1 H1 g1 k1 => ?_
    have q := k1.items g1 sr.wm e2
    refine ⟨by rw [SZ_eq, ← q.length]; exact hz, ?_⟩
    have g0 := g1.base sr.wm
    exact KQ.tup (Q := Q) g0.wm (fun v W' H' g3 k3 => k v W' H' (g0.trans g3) k3) q
  · cases hf
theorem pp_lst (h : PPs X es fs) : PP X (.List es pos) (pLst fs) := by
  obtain ⟨t, p, ka⟩ := h.run
  refine PP.of ⟨_, pe_lst p, fun W H σ e Q r sr hf k => ?_⟩
  obtain ⟨rs, e1, hf⟩ := Option.bind_eq_some_iff.mp hf
  obtain ⟨xs, e2, hf⟩ := Option.bind_eq_some_iff.mp hf
  split at hf
  · rename_i hz
    cases hf
    refine ka W H σ e _ rs sr e1 fun vs W1 H1 g1 k1 => ?_
    have q := k1.items g1 sr.wm e2
    refine ⟨by rw [SZ_eq, ← q.length]; exact hz, fun pp hn => ?_⟩
    have g0 := g1.base sr.wm
    exact KQ.fr (Q := Q) g0.wm (fun v W' H' g3 k3 => k v W' H' (g0.trans g3) (k3.back fun a h => g0.fresh h)) q pp hn
  · cases hf

/-! ## subscripts, slices -/
structure Ix2 (X : Cx) (g : D → D → Option RV) : Prop where
  run : ∃ rl : R2, IxR X rl ∧ ∀ (W : List Addr) (H : Hp) (x y : V) (dx dy : D) (r : RV) (Q : VK), WM W H → Vz W X.K H dx x → Vz W X.K H dy y → g dx dy = some r → KQ W X.K H r Q → rl x y H Q
theorem pp_ix0 {g : D → D → Option RV} (ho : Ix2 X g) (ha : PP X a fa) (hb : PP X b fb) (hs : PlainIx b := by intro _ _; rfl) : PP X (.Subscript a b pos) (p2 g fa fb) := by
  obtain ⟨rl, h1, h2⟩ := ho.run
  obtain ⟨ta, pa, ka⟩ := ha.run
  obtain ⟨tb, pb, kb⟩ := hb.run
  refine PP.of ⟨_, pe_ix h1 pa pb hs, fun W H σ e Q r sr hf k => ?_⟩
  obtain ⟨ra, ea, hf⟩ := Option.bind_eq_some_iff.mp hf
  obtain ⟨rb, eb, hf⟩ := Option.bind_eq_some_iff.mp hf
  exact ka W H σ e _ ra sr ea fun x W1 H1 g1 k1 => kb W1 H1 σ e _ rb (g1.sr sr) eb fun y W2 H2 g2 k2 =>
    h2 W2 H2 x y _ _ r Q g2.wm (k1.vz.grow g2 g1.wm) k2.vz hf fun v W' H' g3 k3 => k v W' H' ((g1.trans g2).trans g3) (k3.back fun a h => g1.fresh (g2.fresh h))
@[simp] def gIx : D → D → Option RV
  | .tup xs, .int i => (atI xs i).map .fz
  | .lst xs, .int i => (atI xs i).map .fz
  | .ro xs, .int i => (atI xs i).map .fz
  | .str z, .int i => if z.length ≤ SZ then (atI z.cps.toList i).map fun c => .fz (.str ⟨#[c]⟩) else none
  | _, _ => none
theorem RpL.at {W : List Addr} {K : PySem.W.Frag} {H : Hp} {ds : List D} {vs : List V} {i : Int} {d : D} (h : RpL W K H ds vs) (e : atI ds i = some d) : ∃ v, atI vs i = some v ∧ Rp W K H d v := by
  unfold atI at e ⊢
  rw [← h.length]
  obtain ⟨j, e1, e2⟩ := Option.bind_eq_some_iff.mp e
  obtain ⟨v, e3, r⟩ := h.get e2
  exact ⟨v, by rw [e1]; exact e3, r⟩
theorem ix_ok : Ix2 X gIx := by
  refine ⟨_, ix_seq, fun W H x y dx dy r Q wm hx hy hg k => ?_⟩
  unfold gIx at hg
  split at hg
  · obtain ⟨d, e, hg⟩ := Option.map_eq_some_iff.mp hg
    subst hg
    obtain ⟨p, vs, e1, h1, r1⟩ := hx
    obtain ⟨v, e2, q⟩ := r1.at e
    exact .inr (.inl ⟨p, vs, _, v, e1, hy, h1.1, e2, k.fz wm q⟩)
  · obtain ⟨d, e, hg⟩ := Option.map_eq_some_iff.mp hg
    subst hg
    obtain ⟨p, vs, e1, h1, r1⟩ := hx
    obtain ⟨v, e2, q⟩ := r1.at e
    exact .inl ⟨p, vs, _, v, e1, hy, .of h1, e2, k.fz wm q⟩
  · obtain ⟨d, e, hg⟩ := Option.map_eq_some_iff.mp hg
    subst hg
    obtain ⟨p, vs, e1, h1, r1⟩ := hx
    obtain ⟨v, e2, q⟩ := r1.at e
    exact .inl ⟨p, vs, _, v, e1, hy, h1.seq, e2, k.fz wm q⟩
  · split at hg
    · rename_i hz
      obtain ⟨c, e, hg⟩ := Option.map_eq_some_iff.mp hg
      subst hg
      exact .inr (.inr ⟨_, _, c, hx, hy, by rw [SZ_eq]; exact hz, e, k.fz wm rfl⟩)
    · cases hg
  · cases hg
theorem pp_ix (ha : PP X a fa) (hb : PP X b fb) (hs : PlainIx b := by intro _ _; rfl) : PP X (.Subscript a b pos) (p2 gIx fa fb) := pp_ix0 ix_ok ha hb hs

/-- a slice's part -/
abbrev FO := En → Option (Option Int)
def tO (K : PySem.W.Frag) (f : FO) : TO := fun σ H Q => ∃ (W : List Addr) (e : En) (o : Option Int), SR W K H σ e ∧ f e = some o ∧ ∀ W' H', Grow W H W' H' → Q o H'
structure OP (X : Cx) (ex : Option Expr) (f : FO) : Prop where
  po : PO X ex (tO X.K f)
theorem OP.of {X : Cx} {ex : Option Expr} {f : FO} (h : ∃ t : TO, PO X ex t ∧ ∀ (W : List Addr) (H : Hp) (σ : St) (e : En) (Q : Option Int → Hp → Prop) (o : Option Int), SR W X.K H σ e → f e = some o →
    (∀ W' H', Grow W H W' H' → Q o H') → t σ H Q) : OP X ex f :=
  let ⟨_, p, k⟩ := h; ⟨⟨fun pins s σ H Q I ⟨W, e, r, a, b, c⟩ => p.run pins s σ H Q I (k W H σ e Q r a b c)⟩⟩
theorem OP.run {X : Cx} {ex : Option Expr} {f : FO} (h : OP X ex f) : ∃ t : TO, PO X ex t ∧ ∀ (W : List Addr) (H : Hp) (σ : St) (e : En) (Q : Option Int → Hp → Prop) (o : Option Int), SR W X.K H σ e → f e = some o →
    (∀ W' H', Grow W H W' H' → Q o H') → t σ H Q := ⟨_, h.po, fun W H σ e Q r a b c => ⟨W, e, r, a, b, c⟩⟩
@[simp] def oNone : En → Option (Option Int) := fun _ => some none
@[simp] def RV.i? : RV → Option Int
  | .fz (.int b) => some b
  | _ => none
theorem RV.i?_ok {r : RV} {b : Int} (h : r.i? = some b) : r = .fz (.int b) := by
  unfold RV.i? at h
  split at h
  · cases h; rfl
  · cases h
@[simp] def oSome (fa : FP) : En → Option (Option Int) := fun e => (fa e).bind fun r => r.i?.map some
theorem op_none : OP X none oNone := OP.of ⟨_, po_none, fun W H σ e Q o sr hf k => by cases hf; exact k W H (.refl sr.wm)⟩
theorem op_some (ha : PP X a fa) : OP X (some a) (oSome fa) := by
  obtain ⟨t, p, ka⟩ := ha.run
  refine OP.of ⟨_, po_some p, fun W H σ e Q o sr hf k => ?_⟩
  obtain ⟨r, e1, hf⟩ := Option.bind_eq_some_iff.mp hf
  obtain ⟨i, e2, hy⟩ := Option.map_eq_some_iff.mp hf
  have e3 := RV.i?_ok e2
  subst e3 hy
  exact ka W H σ e _ _ sr e1 fun v W1 H1 g1 k1 => ⟨i, k1, k W1 H1 g1⟩
def cutD {α : Type} (xs : List α) (lo hi : Option Int) : List α := (xs.drop (HT.sIx xs.length 0 lo)).take (HT.sIx xs.length xs.length hi - HT.sIx xs.length 0 lo)
@[simp] def gSl : D → Option Int → Option Int → Option RV
  | .tup xs, lo, hi => some (.fz (.tup (cutD xs lo hi)))
  | .lst xs, lo, hi => some (.fr (cutD xs lo hi))
  | .ro xs, lo, hi => some (.fr (cutD xs lo hi))
  | .str z, lo, hi => if z.length ≤ SZ then some (.fz (.str (cutS z lo hi))) else none
  | _, _, _ => none
theorem RpL.cut {W : List Addr} {K : PySem.W.Frag} {H : Hp} {ds : List D} {vs : List V} (lo hi : Option Int) (h : RpL W K H ds vs) : RpL W K H (cutD ds lo hi) (cutV vs lo hi) := by
  unfold cutD cutV
  rw [h.length]
  exact (h.drop _).take _
theorem cutD_all {α : Type} {xs : List α} {lo hi : Option Int} (h : HT.sIx xs.length 0 lo = 0 ∧ HT.sIx xs.length xs.length hi = xs.length) : cutD xs lo hi = xs := by
  unfold cutD
  rw [h.1, h.2]
  simp
@[simp] def pSl (fa : FP) (fl fh : En → Option (Option Int)) : FP := fun e => (fa e).bind fun a => (fl e).bind fun lo => (fh e).bind fun hi => gSl a.view lo hi
theorem pp_slice {lo hi : Option Expr} {fl fh : En → Option (Option Int)} {p2 : Pos} (ha : PP X a fa) (hl : OP X lo fl) (hh : OP X hi fh) : PP X (.Subscript a (.Slice lo hi none p2) pos) (pSl fa fl fh) := by
  obtain ⟨ta, pa, ka⟩ := ha.run
  obtain ⟨tl, pl, kl⟩ := hl.run
  obtain ⟨th, ph, kh⟩ := hh.run
  refine PP.of ⟨_, pe_slice (sl_list.or (sl_tupN.or sl_str)) pa pl ph, fun W H σ e Q r sr hf k => ?_⟩
  obtain ⟨ra, ea, hf⟩ := Option.bind_eq_some_iff.mp hf
  obtain ⟨l, el, hf⟩ := Option.bind_eq_some_iff.mp hf
  obtain ⟨u, eu, hf⟩ := Option.bind_eq_some_iff.mp hf
  refine ka W H σ e _ ra sr ea fun x W1 H1 g1 k1 => kl W1 H1 σ e _ l (g1.sr sr) el fun W2 H2 g2 => kh W2 H2 σ e _ u ((g1.trans g2).sr sr) eu fun W3 H3 g3 => ?_
  have g13 := (g1.trans g2).trans g3
  have hx := k1.vz.grow (g2.trans g3) g1.wm
  have wm := g13.wm
  have k' : KQ W3 X.K H3 r Q := fun v W' H' g4 k4 => k v W' H' (g13.trans g4) (k4.back fun a h => g13.fresh h)
  revert hx hf
  generalize ra.view = dx
  intro hf hx
  unfold gSl at hf
  split at hf
  · cases hf
    obtain ⟨p, vs, e1, h1, r1⟩ := hx
    refine .inr (.inl ⟨p, vs, e1, h1.1, fun h => ?_, fun _ => k'.tup wm (r1.cut l u)⟩)
    refine k'.fz wm ⟨p, vs, rfl, h1, ?_⟩
    rw [← r1.length] at h
    rw [cutD_all h]
    exact r1
  · cases hf
    obtain ⟨p, vs, e1, h1, r1⟩ := hx
    exact .inl ⟨p, vs, e1, .of h1, k'.fr wm (r1.cut l u)⟩
  · cases hf
    obtain ⟨p, vs, e1, h1, r1⟩ := hx
    exact .inl ⟨p, vs, e1, h1.seq, k'.fr wm (r1.cut l u)⟩
  · split at hf
    · rename_i hz
      cases hf
      exact .inr (.inr ⟨_, hx, by rw [SZ_eq]; exact hz, k'.fz wm rfl⟩)
    · cases hf
  · cases hf
end
end DL

set_option maxHeartbeats 2000000
namespace DL
open PySem PySem.Spec PyProof.Rows L2

/-! ## built-in functions by data -/
def VzL (W : List Addr) (K : PySem.W.Frag) (H : Hp) : List D → List V → Prop
  | [], vs => vs = []
  | d :: ds, vs => ∃ v us, vs = v :: us ∧ Vz W K H d v ∧ VzL W K H ds us
theorem RVs.vzL {W' : List Addr} {K : PySem.W.Frag} {H H' : Hp} : ∀ {rs : List RV} {vs : List V}, RVs W' K H H' rs vs → VzL W' K H' (rs.map RV.view) vs
  | [], _, h => h
  | _ :: _, _, ⟨v, us, e, h1, h2⟩ => ⟨v, us, e, h1.vz, RVs.vzL h2⟩
structure Ca (X : Cx) (f : Value) (g : List D → Option RV) : Prop where
  run : ∃ rl : List V → Hp → VK → Prop, CallR X f rl ∧ ∀ (W : List Addr) (H : Hp) (xs : List V) (ds : List D) (r : RV) (Q : VK), WM W H → VzL W X.K H ds xs → g ds = some r → KQ W X.K H r Q → rl xs H Q
section
variable {X : Cx} {g : List D → Option RV} {fs : FA} {x : Str} {p pos : Pos} {a : Expr} {es : List Expr} {id T : String}
@[simp] def pCa (g : List D → Option RV) (fs : FA) : FP := fun e => (fs e).bind fun rs => g (rs.map RV.view)
theorem pp_callB (hc : Ca X (.builtin id) g) (hm : X.mg x = none) (ha : PPs X (a :: es) fs) (hg : Gl X x := by rfl) (hv : bootBuiltins x = some (.builtin id) := by decide +kernel) (hn : x ≠ "__name__" := by decide) (hdb : (x == ("__debug__" : Str)) = false := by decide)
    (he : starEach (a :: es) X.env = (false, eval a X.env) :: starEach es X.env := by rfl) (hpl : (backTo pos (starEach es X.env)).any (·.1) = false := by rfl) : PP X (.Call (.Name x p) (a :: es) [] pos) (pCa g fs) := by
  obtain ⟨rl, h1, h2⟩ := hc.run
  obtain ⟨t, pa, ka⟩ := ha.run
  refine PP.of ⟨_, pe_callB h1 hg hm hv pa hn hdb he hpl, fun W H σ e Q r sr hf k => ?_⟩
  obtain ⟨rs, e1, hf⟩ := Option.bind_eq_some_iff.mp hf
  exact ka W H σ e _ rs sr e1 fun vs W1 H1 g1 k1 => h2 W1 H1 vs _ r Q g1.wm k1.vzL hf fun v W' H' g2 k2 => k v W' H' (g1.trans g2) (k2.back fun a h => g1.fresh h)
theorem pp_callT (hc : Ca X (.type T) g) (hm : X.mg x = none) (ha : PPs X (a :: es) fs) (hg : Gl X x := by rfl) (hv : bootBuiltins x = some (.type T) := by decide +kernel) (hn : x ≠ "__name__" := by decide) (hdb : (x == ("__debug__" : Str)) = false := by decide)
    (he : starEach (a :: es) X.env = (false, eval a X.env) :: starEach es X.env := by rfl) (hpl : (backTo pos (starEach es X.env)).any (·.1) = false := by rfl) : PP X (.Call (.Name x p) (a :: es) [] pos) (pCa g fs) := by
  obtain ⟨rl, h1, h2⟩ := hc.run
  obtain ⟨t, pa, ka⟩ := ha.run
  refine PP.of ⟨_, pe_callTy h1 hg hm hv pa hn hdb he hpl, fun W H σ e Q r sr hf k => ?_⟩
  obtain ⟨rs, e1, hf⟩ := Option.bind_eq_some_iff.mp hf
  exact ka W H σ e _ rs sr e1 fun vs W1 H1 g1 k1 => h2 W1 H1 vs _ r Q g1.wm k1.vzL hf fun v W' H' g2 k2 => k v W' H' (g1.trans g2) (k2.back fun a h => g1.fresh h)
end
section
variable {X : Cx} {W : List Addr} {K : PySem.W.Frag} {H : Hp}
@[simp] def gLen : List D → Option RV
  | [.str z] => if z.length ≤ SZ then some (.fz (.int z.length)) else none
  | [.lst xs] => some (.fz (.int xs.length))
  | [.ro xs] => some (.fz (.int xs.length))
  | [.tup xs] => some (.fz (.int xs.length))
  | _ => none
theorem c_len : Ca X (.builtin "len") gLen := by
  refine ⟨_, call_len, fun W H xs ds r Q wm hx hg k => ?_⟩
  unfold gLen at hg
  split at hg
  · split at hg
    · rename_i z hz
      cases hg
      obtain ⟨v, us, rfl, h1, h2⟩ := hx
      cases (show us = [] from h2)
      cases (show v = .str z from h1)
      exact ⟨_, z.length, rfl, ⟨by rw [SZ_eq]; exact hz, rfl⟩, k.fz wm rfl⟩
    · cases hg
  · rename_i ys
    cases hg
    obtain ⟨v, us, rfl, ⟨a, vs, rfl, h1, r1⟩, h2⟩ := hx
    cases (show us = [] from h2)
    exact ⟨_, ys.length, rfl, .inl ⟨vs, .of h1, r1.length⟩, k.fz wm rfl⟩
  · rename_i ys
    cases hg
    obtain ⟨v, us, rfl, ⟨a, vs, rfl, h1, r1⟩, h2⟩ := hx
    cases (show us = [] from h2)
    exact ⟨_, ys.length, rfl, .inl ⟨vs, h1.seq, r1.length⟩, k.fz wm rfl⟩
  · rename_i ys
    cases hg
    obtain ⟨v, us, rfl, ⟨a, vs, rfl, h1, r1⟩, h2⟩ := hx
    cases (show us = [] from h2)
    exact ⟨_, ys.length, rfl, .inr ⟨vs, h1.1, r1.length⟩, k.fz wm rfl⟩
  · cases hg
/-- one argument -/
theorem VzL.one {d : D} {xs : List V} (h : VzL W K H [d] xs) : ∃ v, xs = [v] ∧ Vz W K H d v := by
  obtain ⟨v, us, rfl, h1, h2⟩ := h
  cases (show us = [] from h2)
  exact ⟨v, rfl, h1⟩
theorem VzL.two {d d' : D} {xs : List V} (h : VzL W K H [d, d'] xs) : ∃ v v', xs = [v, v'] ∧ Vz W K H d v ∧ Vz W K H d' v' := by
  obtain ⟨v, us, rfl, h1, h2⟩ := h
  obtain ⟨v', rfl, h3⟩ := VzL.one h2
  exact ⟨v, v', rfl, h1, h3⟩
@[simp] def gAbs : List D → Option RV
  | [.int i] => some (.fz (.int (if i < 0 then -i else i)))
  | _ => none
theorem c_abs : Ca X (.builtin "abs") gAbs := by
  refine ⟨_, call_abs, fun W H xs ds r Q wm hx hg k => ?_⟩
  unfold gAbs at hg
  split at hg
  · cases hg
    obtain ⟨v, rfl, h⟩ := hx.one
    cases h
    exact ⟨_, rfl, k.fz wm rfl⟩
  · cases hg
@[simp] def gMax2 : List D → Option RV
  | [.int i, .int j] => some (.fz (.int (if j > i then j else i)))
  | _ => none
theorem c_max2 (hc : X.calm = true) : Ca X (.builtin "max") gMax2 := by
  refine ⟨_, call_max2 hc, fun W H xs ds r Q wm hx hg k => ?_⟩
  unfold gMax2 at hg
  split at hg
  · cases hg
    obtain ⟨v, v', rfl, h, h'⟩ := hx.two
    cases h
    cases h'
    exact ⟨_, _, rfl, k.fz wm rfl⟩
  · cases hg
@[simp] def gMin2 : List D → Option RV
  | [.int i, .int j] => some (.fz (.int (if j < i then j else i)))
  | _ => none
theorem c_min2 (hc : X.calm = true) : Ca X (.builtin "min") gMin2 := by
  refine ⟨_, call_min2 hc, fun W H xs ds r Q wm hx hg k => ?_⟩
  unfold gMin2 at hg
  split at hg
  · cases hg
    obtain ⟨v, v', rfl, h, h'⟩ := hx.two
    cases h
    cases h'
    exact ⟨_, _, rfl, k.fz wm rfl⟩
  · cases hg
@[simp] def gInt : List D → Option RV
  | [.int i] => some (.fz (.int i))
  | [.bl b] => some (.fz (.int (if b then 1 else 0)))
  | _ => none
theorem c_int : Ca X (.type "int") gInt := by
  refine ⟨_, call_int1, fun W H xs ds r Q wm hx hg k => ?_⟩
  unfold gInt at hg
  split at hg
  · cases hg
    obtain ⟨v, rfl, h⟩ := hx.one
    cases h
    exact .inl ⟨_, rfl, k.fz wm rfl⟩
  · cases hg
    obtain ⟨v, rfl, h⟩ := hx.one
    cases h
    exact .inr ⟨_, rfl, k.fz wm rfl⟩
  · cases hg
@[simp] def gList : List D → Option RV
  | [.lst xs] => some (.fr xs)
  | [.ro xs] => some (.fr xs)
  | [.tup xs] => some (.fr xs)
  | _ => none
theorem c_list : Ca X (.type "list") gList := by
  refine ⟨_, call_list_of, fun W H xs ds r Q wm hx hg k => ?_⟩
  unfold gList at hg
  split at hg
  · cases hg
    obtain ⟨v, rfl, a, vs, rfl, h1, r1⟩ := hx.one
    exact ⟨a, vs, rfl, .inl (.of h1), k.fr wm r1⟩
  · cases hg
    obtain ⟨v, rfl, a, vs, rfl, h1, r1⟩ := hx.one
    exact ⟨a, vs, rfl, .inl h1.seq, k.fr wm r1⟩
  · cases hg
    obtain ⟨v, rfl, a, vs, rfl, h1, r1⟩ := hx.one
    exact ⟨a, vs, rfl, .inr h1.1, k.fr wm r1⟩
  · cases hg
@[simp] def gTuple : List D → Option RV
  | [.lst xs] => some (.fz (.tup xs))
  | [.ro xs] => some (.fz (.tup xs))
  | [.tup xs] => some (.fz (.tup xs))
  | _ => none
theorem c_tuple : Ca X (.type "tuple") gTuple := by
  refine ⟨_, call_tupN, fun W H xs ds r Q wm hx hg k => ?_⟩
  unfold gTuple at hg
  split at hg
  · cases hg
    obtain ⟨v, rfl, a, vs, rfl, h1, r1⟩ := hx.one
    exact ⟨a, vs, rfl, .inl ⟨.of h1, k.tup wm r1⟩⟩
  · cases hg
    obtain ⟨v, rfl, a, vs, rfl, h1, r1⟩ := hx.one
    exact ⟨a, vs, rfl, .inl ⟨h1.seq, k.tup wm r1⟩⟩
  · cases hg
    obtain ⟨v, rfl, a, vs, rfl, h1, r1⟩ := hx.one
    exact ⟨a, vs, rfl, .inr ⟨h1.1, k.fz wm ⟨a, vs, rfl, h1, r1⟩⟩⟩
  · cases hg
@[simp] def bls? : List D → Option (List Bool)
  | [] => some []
  | d :: r => match d with
    | .bl b => (bls? r).map (b :: ·)
    | _ => none
@[simp] def ints? : List D → Option (List Int)
  | [] => some []
  | d :: r => match d with
    | .int b => (ints? r).map (b :: ·)
    | _ => none
@[simp] def strs? : List D → Option (List Str)
  | [] => some []
  | d :: r => match d with
    | .str b => (strs? r).map (b :: ·)
    | _ => none
theorem bls_ok : ∀ {ds : List D} {vs : List V} {bs : List Bool}, RpL W K H ds vs → bls? ds = some bs → vs = bs.map V.bl
  | [], vs, bs, h, e => by cases e; exact h
  | d :: r, _, bs, ⟨v, us, e1, h1, h2⟩, e => by
    cases d with
    | bl b =>
      obtain ⟨cs, e2, rfl⟩ := Option.map_eq_some_iff.mp (show (bls? r).map (b :: ·) = some bs from e)
      cases (show v = .bl b from h1)
      rw [e1, bls_ok h2 e2]
      rfl
    | _ => cases (show (none : Option (List Bool)) = some bs from e)
theorem ints_ok : ∀ {ds : List D} {vs : List V} {bs : List Int}, RpL W K H ds vs → ints? ds = some bs → vs = bs.map V.int
  | [], vs, bs, h, e => by cases e; exact h
  | d :: r, _, bs, ⟨v, us, e1, h1, h2⟩, e => by
    cases d with
    | int b =>
      obtain ⟨cs, e2, rfl⟩ := Option.map_eq_some_iff.mp (show (ints? r).map (b :: ·) = some bs from e)
      cases (show v = .int b from h1)
      rw [e1, ints_ok h2 e2]
      rfl
    | _ => cases (show (none : Option (List Int)) = some bs from e)
theorem strs_ok : ∀ {ds : List D} {vs : List V} {bs : List Str}, RpL W K H ds vs → strs? ds = some bs → vs = bs.map V.str
  | [], vs, bs, h, e => by cases e; exact h
  | d :: r, _, bs, ⟨v, us, e1, h1, h2⟩, e => by
    cases d with
    | str b =>
      obtain ⟨cs, e2, rfl⟩ := Option.map_eq_some_iff.mp (show (strs? r).map (b :: ·) = some bs from e)
      cases (show v = .str b from h1)
      rw [e1, strs_ok h2 e2]
      rfl
    | _ => cases (show (none : Option (List Str)) = some bs from e)
@[simp] def gAll : List D → Option RV
  | [.lst xs] => (bls? xs).map fun bs => .fz (.bl (bs.all id))
  | _ => none
@[simp] def gAny : List D → Option RV
  | [.lst xs] => (bls? xs).map fun bs => .fz (.bl (bs.any id))
  | _ => none
@[simp] def gSum : List D → Option RV
  | [.lst xs] => (ints? xs).map fun bs => .fz (.int bs.sum)
  | _ => none
theorem c_all (hc : X.calm = true) : Ca X (.builtin "all") gAll := by
  refine ⟨_, cr_all hc, fun W H xs ds r Q wm hx hg k => ?_⟩
  unfold gAll at hg
  split at hg
  · obtain ⟨bs, e, rfl⟩ := Option.map_eq_some_iff.mp hg
    obtain ⟨v, rfl, a, vs, rfl, h1, r1⟩ := hx.one
    exact ⟨a, bs, rfl, .of (by rw [h1, bls_ok r1 e]), k.fz wm rfl⟩
  · cases hg
theorem c_any (hc : X.calm = true) : Ca X (.builtin "any") gAny := by
  refine ⟨_, cr_any hc, fun W H xs ds r Q wm hx hg k => ?_⟩
  unfold gAny at hg
  split at hg
  · obtain ⟨bs, e, rfl⟩ := Option.map_eq_some_iff.mp hg
    obtain ⟨v, rfl, a, vs, rfl, h1, r1⟩ := hx.one
    exact ⟨a, bs, rfl, .of (by rw [h1, bls_ok r1 e]), k.fz wm rfl⟩
  · cases hg
theorem c_sum (hc : X.calm = true) : Ca X (.builtin "sum") gSum := by
  refine ⟨_, cr_sum hc, fun W H xs ds r Q wm hx hg k => ?_⟩
  unfold gSum at hg
  split at hg
  · obtain ⟨bs, e, rfl⟩ := Option.map_eq_some_iff.mp hg
    obtain ⟨v, rfl, a, vs, rfl, h1, r1⟩ := hx.one
    exact ⟨a, bs, rfl, .of (by rw [h1, ints_ok r1 e]), k.fz wm rfl⟩
  · cases hg
@[simp] def gDivmod : List D → Option RV
  | [.int i, .int j] => if 0 < j ∧ j < 1073741824 then some (.fz (.tup [.int (i / j), .int (i % j)])) else none
  | _ => none
theorem c_divmod : Ca X (.builtin "divmod") gDivmod := by
  refine ⟨_, call_divN, fun W H xs ds r Q wm hx hg k => ?_⟩
  unfold gDivmod at hg
  split at hg
  · split at hg
    · rename_i hz
      cases hg
      obtain ⟨v, v', rfl, h, h'⟩ := hx.two
      cases h
      cases h'
      exact ⟨_, _, rfl, hz, k.tup wm ⟨_, _, rfl, rfl, _, _, rfl, rfl, rfl⟩⟩
    · cases hg
  · cases hg

/-! ### isinstance -/
/-- a datum's type -/
inductive Tg where
  | non | bool | int | str | tup | lst | dic
def Tg.s : Tg → String
  | .non => "NoneType"
  | .bool => "bool"
  | .int => "int"
  | .str => "str"
  | .tup => "tuple"
  | .lst => "list"
  | .dic => "dict"
@[simp] def D.tg : D → Tg
  | .non => .non
  | .bl _ => .bool
  | .int _ => .int
  | .str _ => .str
  | .tup _ => .tup
  | .lst _ => .lst
  | .ro _ => .lst
  | .dic _ _ => .dic
abbrev D.ty (d : D) : String := d.tg.s
theorem tyX {d : D} {v : V} (h : Vz W K H d v) : TyX K H v (.type d.ty) := by
  cases d with
  | non => cases h; exact .base .non
  | bl b => cases (show v = .bl b from h); exact .base (.bl b)
  | int b => cases (show v = .int b from h); exact .base (.int b)
  | str b => cases (show v = .str b from h); exact .base (.str b)
  | tup xs =>
    obtain ⟨a, vs, rfl, ⟨h1, _⟩, _⟩ := h
    rcases h1 with (h1 | ⟨o, h1⟩) | ⟨o, its, n, h1, h2, _⟩
    · exact .base (.tup h1)
    · exact .fTuple h1
    · exact .kTuple h1 h2
  | lst xs => obtain ⟨a, vs, rfl, h1, _⟩ := h; exact .base (.lst h1)
  | ro xs =>
    obtain ⟨a, vs, rfl, h1, _⟩ := h
    rcases h1 with ⟨o, h1⟩ | (h1 | ⟨o, h1⟩) | ⟨o, its, n, h1, h2, _⟩
    · exact .base (.frz h1)
    · cases h1
    · cases h1
    · exact .kList h1 h2
  | dic ks xs => obtain ⟨a, vs, rfl, h1, _⟩ := h; exact .base (.dK h1)
end
/-- the built-in classes that are asked -/
inductive BT where
  | int | bool | str | tuple | list | dict
def BT.s : BT → String
  | .int => "int"
  | .bool => "bool"
  | .str => "str"
  | .tuple => "tuple"
  | .list => "list"
  | .dict => "dict"
@[simp] def isT : BT → Tg → Bool
  | .int, .int => true
  | .int, .bool => true
  | .bool, .bool => true
  | .str, .str => true
  | .tuple, .tup => true
  | .list, .lst => true
  | .dict, .dic => true
  | _, _ => false
@[simp] def isi (T : BT) (d : D) : Bool := isT T d.tg
theorem kit_isT : ∀ (T : BT) (t : Tg), kitB t.s T.s = some (isT T t) := by
  intro T t
  cases T <;> cases t <;> decide +kernel
theorem kit_isi (T : BT) (d : D) : kitB d.ty T.s = some (isi T d) := kit_isT T d.tg
section
variable {X : Cx} {fa : FP} {a : Expr} {p p2 p3 pos : Pos}
/-- isinstance(a, T): ans by the datum's type -/
@[simp] def pIsi (T : BT) (fa : FP) : FP := fun e => (fa e).map fun r => .fz (.bl (isi T r.view))
theorem pp_isi {x : Str} (T : BT) (hm : X.mg "isinstance" = none) (hm2 : X.mg x = none) (ha : PP X a fa) (hg : Gl X "isinstance" := by rfl) (hg2 : Gl X x := by rfl) (hv : bootBuiltins "isinstance" = some (.builtin "isinstance") := by decide +kernel) (hv2 : bootBuiltins x = some (.type T.s) := by decide +kernel)
    (hn : x ≠ "__name__" := by decide) (hdb : (x == ("__debug__" : Str)) = false := by decide) (s1 : starEach [a, .Name x p2] X.env = (false, eval a X.env) :: starEach [.Name x p2] X.env := by rfl) (s2 : starEach [.Name x p2] X.env = (false, eval (.Name x p2) X.env) :: starEach [] X.env := by rfl)
    (hpl : (backTo pos (starEach [.Name x p2] X.env)).any (·.1) = false := by rfl) : PP X (.Call (.Name "isinstance" p) [a, .Name x p2] [] pos) (pIsi T fa) := by
  obtain ⟨t, pa, ka⟩ := ha.run
  refine PP.of ⟨_, pe_callB call_isi hg hm hv (pa_cons pa (pa_cons (pe_bltn (v := .ty T.s) hg2 hm2 hv2 rfl hn hdb) pa_nil s2) s1) (by decide) (by decide) s1 hpl, fun W H σ e Q r sr hf k => ?_⟩
  obtain ⟨r1, e1, hf⟩ := Option.map_eq_some_iff.mp hf
  subst hf
  exact ka W H σ e _ r1 sr e1 fun v W1 H1 g1 k1 => ⟨v, .ty T.s, _, .type T.s, _, rfl, .ty T.s, tyX k1.vz, kit_ty (kit_isi T _), k _ W1 H1 g1 rfl⟩
@[simp] def pIsi2 (T U : BT) (fa : FP) : FP := fun e => (fa e).map fun r => .fz (.bl (isi T r.view || isi U r.view))
theorem pp_isi2 {x y : Str} {ps py pt : Pos} {kk} (T U : BT) (hm : X.mg "isinstance" = none) (hm2 : X.mg x = none) (hm3 : X.mg y = none) (ha : PP X a fa) (hg : Gl X "isinstance" := by rfl) (hg2 : Gl X x := by rfl) (hg3 : Gl X y := by rfl) (hv : bootBuiltins "isinstance" = some (.builtin "isinstance") := by decide +kernel)
    (hv2 : bootBuiltins x = some (.type T.s) := by decide +kernel) (hv3 : bootBuiltins y = some (.type U.s) := by decide +kernel)
    (hn : x ≠ "__name__" := by decide) (hdb : (x == ("__debug__" : Str)) = false := by decide) (hn3 : y ≠ "__name__" := by decide) (hdb3 : (y == ("__debug__" : Str)) = false := by decide)
    (s1 : starEach [a, .Tuple [.Name x p2, .Name y py] kk pt] X.env = (false, eval a X.env) :: starEach [.Tuple [.Name x p2, .Name y py] kk pt] X.env := by rfl)
    (s2 : starEach [.Tuple [.Name x p2, .Name y py] kk pt] X.env = (false, eval (.Tuple [.Name x p2, .Name y py] kk pt) X.env) :: starEach [] X.env := by rfl)
    (s3 : starEach [.Name x p2, .Name y py] X.env = (false, eval (.Name x p2) X.env) :: starEach [.Name y py] X.env := by rfl) (s4 : starEach [.Name y py] X.env = (false, eval (.Name y py) X.env) :: starEach [] X.env := by rfl)
    (hpl : (backTo pos (starEach [.Tuple [.Name x p2, .Name y py] kk pt] X.env)).any (·.1) = false := by rfl) : PP X (.Call (.Name "isinstance" p) [a, .Tuple [.Name x p2, .Name y py] kk pt] [] pos) (pIsi2 T U fa) := by
  obtain ⟨t, pa, ka⟩ := ha.run
  refine PP.of ⟨_, pe_callB call_isiT hg hm hv (pa_cons pa (pa_cons (pe_tup (pa_cons (pe_bltn (v := .ty T.s) hg2 hm2 hv2 rfl hn hdb) (pa_cons (pe_bltn (v := .ty U.s) hg3 hm3 hv3 rfl hn3 hdb3) pa_nil s4) s3)) pa_nil s2) s1) (by decide) (by decide) s1 hpl, fun W H σ e Q r sr hf k => ?_⟩
  obtain ⟨r1, e1, hf⟩ := Option.map_eq_some_iff.mp hf
  subst hf
  refine ka W H σ e _ r1 sr e1 fun v W1 H1 g1 k1 => ⟨by show 2 ≤ sizeLine; decide, fun q hq => ?_⟩
  have g2 : Grow W1 H1 W1 (upd H1 q (.tup [.ty T.s, .ty U.s])) := .tup g1.wm hq
  refine ⟨v, q, [.ty T.s, .ty U.s], .type r1.view.ty, [.type T.s, .type U.s], isi T r1.view || isi U r1.view, rfl, upd_same, .cons (.ty T.s) (.cons (.ty U.s) .nil), tyX (k1.vz.grow g2 g1.wm), ?_, k _ W1 _ (g1.trans g2) rfl⟩
  have h1 : PySem.W.kitOne X.K (.type r1.view.ty) (.type T.s) = some (isi T r1.view) := kit_ty (kit_isi T _)
  have h2 : PySem.W.kitOne X.K (.type r1.view.ty) (.type U.s) = some (isi U r1.view) := kit_ty (kit_isi U _)
  unfold PySem.W.kitAny
  rw [h1]
  cases isi T r1.view with
  | true => rfl
  | false =>
    unfold PySem.W.kitAny
    rw [h2]
    cases isi U r1.view <;> rfl
end
end DL

set_option maxHeartbeats 2000000
namespace DL
open PySem PySem.Spec PyProof.Rows L2

/-! ## what is walked -/
/-- what a target is given: a tuple that is taken apart at once may be any tuple -/
def Rq (tg : Expr) (W : List Addr) (K : PySem.W.Frag) (H : Hp) (d : D) (v : V) : Prop := match tg with
  | .Tuple _ _ _ => Rp W K H d v ∨ ∃ xs a vs, d = .tup xs ∧ v = .ref a ∧ SqT K H a vs ∧ RpL W K H xs vs
  | _ => Rp W K H d v
theorem Rq.of {tg : Expr} {W : List Addr} {K : PySem.W.Frag} {H : Hp} {d : D} {v : V} (h : Rp W K H d v) : Rq tg W K H d v := by
  unfold Rq
  split
  · exact .inl h
  · exact h
def ItAt (tg : Expr) (W : List Addr) (K : PySem.W.Frag) (H : Hp) (J : It) (ds : List D) : Prop :=
  (∀ (i : Nat) (d : D), ds[i]? = some d → J.go i H ∧ ∀ x H', J.yld i H x H' → (∀ a o, H a = some o → H' a = some o) ∧ Rq tg W K H' d x) ∧ J.stop ds.length H
abbrev FI := En → Option (List D × Bool)
def tI (tg : Expr) (K : PySem.W.Frag) (f : FI) : TI := fun σ H R => ∃ (W : List Addr) (e : En) (ds : List D) (b : Bool), SR W K H σ e ∧ f e = some (ds, b) ∧
  ∀ J W' H', Grow W H W' H' → (∀ W2 H2, (Grow W' H' W2 H2 ∨ (b = true ∧ Ex W' H' W2 H2 ∧ WM W2 H2)) → ItAt tg W2 K H2 J ds) → R J H'
structure IP (X : Cx) (tg iter : Expr) (f : FI) : Prop where
  pi : PI X tg iter (tI tg X.K f)
section
variable {X : Cx} {tg : Expr} {W W' : List Addr} {K : PySem.W.Frag} {H H' : Hp}
theorem itAt_list {a : Addr} {vs : List V} {ds : List D} (h : SqL K H a vs) (r : RpL W K H ds vs) : ItAt tg W K H (Itl K a) ds := by
  refine ⟨fun i d e => ?_, ⟨vs, h, Nat.le_of_eq r.length.symm⟩⟩
  obtain ⟨v, e2, q⟩ := r.get e
  refine ⟨⟨vs, v, h, e2⟩, fun x H' y => ?_⟩
  obtain ⟨rfl, y⟩ := y
  have z := y vs h
  rw [e2] at z
  cases z
  exact ⟨fun _ _ h => h, .of q⟩
theorem itAt_tup {a : Addr} {vs : List V} {ds : List D} (h : SqT K H a vs) (r : RpL W K H ds vs) : ItAt tg W K H (Itt K a) ds := by
  refine ⟨fun i d e => ?_, ⟨vs, h, Nat.le_of_eq r.length.symm⟩⟩
  obtain ⟨v, e2, q⟩ := r.get e
  refine ⟨⟨vs, v, h, e2⟩, fun x H' y => ?_⟩
  obtain ⟨rfl, y⟩ := y
  have z := y vs h
  rw [e2] at z
  cases z
  exact ⟨fun _ _ h => h, .of q⟩
def signs (z : Str) : List D := z.cps.toList.map fun c => .str ⟨#[c]⟩
theorem itAt_str (z : Str) : ItAt tg W K H (Its z) (signs z) := by
  have hl : (signs z).length = z.cps.size := by unfold signs; rw [List.length_map, Array.length_toList]
  refine ⟨fun i d e => ?_, by show z.cps.size ≤ _; rw [hl]; exact Nat.le_refl _⟩
  have hi : i < z.cps.size := by rw [← hl]; exact (List.getElem?_eq_some_iff.mp e).1
  refine ⟨hi, fun x H' y => ?_⟩
  obtain ⟨rfl, c, hc, rfl⟩ := y
  refine ⟨fun _ _ h => h, .of ?_⟩
  unfold signs at e
  rw [List.getElem?_map, Array.getElem?_toList, hc] at e
  cases e
  rfl
def rangeD (lo : Int) (n : Nat) : List D := (List.range n).map fun (i : Nat) => .int (lo + i)
theorem itAt_range (lo : Int) (n : Nat) : ItAt tg W K H (Itr lo n) (rangeD lo n) := by
  have hl : (rangeD lo n).length = n := by unfold rangeD; rw [List.length_map, List.length_range]
  refine ⟨fun i d e => ?_, by show n ≤ _; rw [hl]; exact Nat.le_refl _⟩
  have hi : i < n := by rw [← hl]; exact (List.getElem?_eq_some_iff.mp e).1
  refine ⟨hi, fun x H' y => ?_⟩
  obtain ⟨rfl, rfl⟩ := y
  refine ⟨fun _ _ h => h, .of ?_⟩
  unfold rangeD at e
  rw [List.getElem?_map, List.getElem?_range hi] at e
  cases e
  rfl
@[simp] def iSeqR : RV → Option (List D × Bool)
  | .fz (.lst xs) => some (xs, true)
  | .fz (.tup xs) => some (xs, true)
  | .fz (.ro xs) => some (xs, true)
  | .fz (.str z) => some (signs z, true)
  | .fr xs => some (xs, true)
  | .ow xs => some (xs, false)
  | _ => none
@[simp] def iSeq (fa : FP) : FI := fun e => (fa e).bind iSeqR
theorem ip_seq {tg a : Expr} {fa : FP} (ha : PP X a fa) : IP X tg a (iSeq fa) := by
  refine ⟨⟨fun pins s σ H R I ⟨W, e, ds, b, sr, hf, k⟩ => ?_⟩⟩
  obtain ⟨r, e1, hy⟩ := Option.bind_eq_some_iff.mp hf
  unfold iSeqR at hy
  split at hy
  · cases hy
    refine (pi_list ha.pe).run pins s σ H R I ⟨W, e, _, sr, e1, fun v W1 H1 g1 k1 => ?_⟩
    obtain ⟨a, vs, rfl, h1, r1⟩ := k1
    refine ⟨a, rfl, ⟨vs, .of h1.1⟩, k _ W1 H1 g1 fun W2 H2 h2 => ?_⟩
    rcases h2 with g2 | ⟨_, x2, _⟩
    · exact itAt_list (.of (g2.keep _ _ h1.1)) (RpL.mono (g2.ex g1.wm) _ r1)
    · exact itAt_list (.of (x2.lsF h1).1) (RpL.mono x2 _ r1)
  · cases hy
    refine (pi_tup ha.pe).run pins s σ H R I ⟨W, e, _, sr, e1, fun v W1 H1 g1 k1 => ?_⟩
    obtain ⟨a, vs, rfl, h1, r1⟩ := k1
    refine ⟨a, rfl, ⟨vs, h1.1⟩, k _ W1 H1 g1 fun W2 H2 h2 => ?_⟩
    rcases h2 with g2 | ⟨_, x2, _⟩
    · exact itAt_tup ((g2.ex g1.wm).sqT h1.1) (RpL.mono (g2.ex g1.wm) _ r1)
    · exact itAt_tup (x2.sqT h1.1) (RpL.mono x2 _ r1)
  · cases hy
    refine (pi_list ha.pe).run pins s σ H R I ⟨W, e, _, sr, e1, fun v W1 H1 g1 k1 => ?_⟩
    obtain ⟨a, vs, rfl, h1, r1⟩ := k1
    refine ⟨a, rfl, ⟨vs, h1.seq⟩, k _ W1 H1 g1 fun W2 H2 h2 => ?_⟩
    rcases h2 with g2 | ⟨_, x2, _⟩
    · exact itAt_list ((g2.ex g1.wm).roF h1).seq (RpL.mono (g2.ex g1.wm) _ r1)
    · exact itAt_list (x2.roF h1).seq (RpL.mono x2 _ r1)
  · rename_i z
    cases hy
    refine (pi_str ha.pe).run pins s σ H R I ⟨W, e, _, sr, e1, fun v W1 H1 g1 k1 => ?_⟩
    cases (show v = .str z from k1)
    exact ⟨z, rfl, k _ W1 H1 g1 fun W2 H2 h2 => itAt_str z⟩
  · cases hy
    refine (pi_list ha.pe).run pins s σ H R I ⟨W, e, _, sr, e1, fun v W1 H1 g1 k1 => ?_⟩
    obtain ⟨a, vs, rfl, h0, h1, h2, r1⟩ := k1
    have g0 := g1.base sr.wm
    have r0 := RpL.weak g1.sub g1.wm r1
    have na : a ∉ W := fun z => isSome_of_mut (sr.wm a z) h0
    refine ⟨a, rfl, ⟨vs, .of h2⟩, k _ W H1 g0 fun W2 H2 h3 => ?_⟩
    rcases h3 with g2 | ⟨_, x2, _⟩
    · exact itAt_list (.of (g2.keep _ _ h2)) (RpL.mono (g2.ex g0.wm) _ r0)
    · exact itAt_list (.of (x2.keep _ _ h2 na).1) (RpL.mono x2 _ r0)
  · cases hy
    refine (pi_list ha.pe).run pins s σ H R I ⟨W, e, _, sr, e1, fun v W1 H1 g1 k1 => ?_⟩
    obtain ⟨a, vs, rfl, h1, h2, r1⟩ := k1
    refine ⟨a, rfl, ⟨vs, .of h2⟩, k _ W1 H1 g1 fun W2 H2 h3 => ?_⟩
    rcases h3 with g2 | ⟨z, _⟩
    · exact itAt_list (.of (g2.keep _ _ h2)) (RpL.mono (g2.ex g1.wm) _ r1)
    · cases z
  · cases hy
def i62 (j : Int) : Bool := decide (-(2 ^ 62) ≤ j) && decide (j < 2 ^ 62)
theorem i62_ok {j : Int} (h : i62 j = true) : -(2 ^ 62) ≤ j ∧ j < 2 ^ 62 := by
  obtain ⟨h1, h2⟩ := Bool.and_eq_true_iff.mp h
  exact ⟨of_decide_eq_true h1, of_decide_eq_true h2⟩
@[simp] def rgR1 : List RV → Option (List D × Bool)
  | [r] => r.i?.bind fun j => if i62 j = true then some (rangeD 0 j.toNat, true) else none
  | _ => none
@[simp] def rgR2 : List RV → Option (List D × Bool)
  | [r, r'] => r.i?.bind fun i => r'.i?.bind fun j => if i62 i = true ∧ i62 j = true then some (rangeD i (j - i).toNat, true) else none
  | _ => none
@[simp] def iRg1 (fs : FA) : FI := fun e => (fs e).bind rgR1
@[simp] def iRg2 (fs : FA) : FI := fun e => (fs e).bind rgR2
theorem ip_range1 {tg a : Expr} {fs : FA} {p pos : Pos} (hm : X.mg "range" = none) (ha : PPs X [a] fs) (hg : Gl X "range" := by rfl) (hs : starEach [a] X.env = [(false, eval a X.env)] := by rfl) : IP X tg (.Call (.Name "range" p) [a] [] pos) (iRg1 fs) := by
  refine ⟨⟨fun pins s σ H R I ⟨W, e, ds, b, sr, hf, k⟩ => ?_⟩⟩
  obtain ⟨rs, e1, hy⟩ := Option.bind_eq_some_iff.mp hf
  unfold rgR1 at hy
  split at hy
  · obtain ⟨j, e2, hz⟩ := Option.bind_eq_some_iff.mp hy
    have e3 := RV.i?_ok e2
    subst e3
    split at hz
    · rename_i h62
      cases hz
      refine (pi_range1 hg hm ha.pa hs).run pins s σ H R I ⟨W, e, _, sr, e1, fun vs W1 H1 g1 k1 => ?_⟩
      obtain ⟨v, us, rfl, h1, h2⟩ := k1
      cases (show us = [] from h2)
      cases (show v = .int j from h1)
      exact ⟨j, rfl, (i62_ok h62).1, (i62_ok h62).2, k _ W1 H1 g1 fun _ _ _ => itAt_range 0 _⟩
    · cases hz
  · cases hy
theorem ip_range2 {tg a b : Expr} {fs : FA} {p pos : Pos} (hm : X.mg "range" = none) (ha : PPs X [a, b] fs) (hg : Gl X "range" := by rfl) (hs : starEach [a, b] X.env = [(false, eval a X.env), (false, eval b X.env)] := by rfl) (hs2 : starEach [b] X.env = [(false, eval b X.env)] := by rfl) : IP X tg (.Call (.Name "range" p) [a, b] [] pos) (iRg2 fs) := by
  refine ⟨⟨fun pins s σ H R I ⟨W, e, ds, bb, sr, hf, k⟩ => ?_⟩⟩
  obtain ⟨rs, e1, hy⟩ := Option.bind_eq_some_iff.mp hf
  unfold rgR2 at hy
  split at hy
  · obtain ⟨i, e2, hz⟩ := Option.bind_eq_some_iff.mp hy
    obtain ⟨j, e4, hw⟩ := Option.bind_eq_some_iff.mp hz
    have e3 := RV.i?_ok e2
    have e5 := RV.i?_ok e4
    subst e3 e5
    split at hw
    · rename_i h62
      cases hw
      refine (pi_range2 hg hm ha.pa hs hs2).run pins s σ H R I ⟨W, e, _, sr, e1, fun vs W1 H1 g1 k1 => ?_⟩
      obtain ⟨v, us, rfl, h1, v', us', rfl, h1', h2⟩ := k1
      cases (show us' = [] from h2)
      cases (show v = .int i from h1)
      cases (show v' = .int j from h1')
      exact ⟨i, j, rfl, ⟨(i62_ok h62.1).1, (i62_ok h62.1).2, (i62_ok h62.2).1, (i62_ok h62.2).2⟩, k _ W1 H1 g1 fun _ _ _ => itAt_range i _⟩
    · cases hw
  · cases hy
end

/-! ## targets -/
abbrev FG := D → En → Option En
def tG (tg : Expr) (K : PySem.W.Frag) (vs : List Nat) (f : FG) : TG := fun v σ H Q => ∃ (W : List Addr) (e : En) (d : D) (e' : En), SR W K H σ e ∧ Rq tg W K H d v ∧ f d e = some e' ∧
  ∀ σ', SR W K H σ' e' → σ'.length = σ.length → (∀ j, j ∉ vs → σ'[j]? = σ[j]?) → (∀ a, Ow σ' e' a → Ow σ e a) → Q σ' H
structure GP (X : Cx) (tg : Expr) (vs : List Nat) (f : FG) : Prop where
  pg : PG X tg (tG tg X.K vs f)
def tGs (K : PySem.W.Frag) (vs : List Nat) (f : List D → En → Option En) : TGs := fun us σ H Q => ∃ (W : List Addr) (e : En) (ds : List D) (e' : En), SR W K H σ e ∧ RpL W K H ds us ∧ f ds e = some e' ∧
  ∀ σ', SR W K H σ' e' → σ'.length = σ.length → (∀ j, j ∉ vs → σ'[j]? = σ[j]?) → (∀ a, Ow σ' e' a → Ow σ e a) → Q σ' H
structure GPs (X : Cx) (ts : List Expr) (vs : List Nat) (f : List D → En → Option En) : Prop where
  pgs : PGs X ts (tGs X.K vs f)
section
variable {X : Cx} {W W' : List Addr} {K : PySem.W.Frag} {H H' : Hp} {σ : St} {e : En}
/-- a slot is given frozen data -/
theorem SR.setD (r : SR W K H σ e) {i : Nat} (hi : i < σ.length) {d : D} {v : V} (h : Rp W K H d v) : SR W K H (σ.set i (some v)) (e.set i (some (.d d))) where
  wm := r.wm
  len := by rw [List.length_set, List.length_set, r.len]
  sl := fun j s q => by
    by_cases z : i = j
    · subst z
      rw [List.getElem?_set_self (by rw [r.len]; exact hi)] at q
      cases q
      exact ⟨v, List.getElem?_set_self hi, h⟩
    · rw [List.getElem?_set_ne z] at q
      obtain ⟨u, h1, h2⟩ := r.sl j s q
      exact ⟨u, by rw [List.getElem?_set_ne z]; exact h1, h2⟩
  one := fun j l s t a q1 q2 o1 o2 h1 h2 => by
    by_cases z : i = j
    · subst z
      rw [List.getElem?_set_self (by rw [r.len]; exact hi)] at q1
      cases q1
      cases o1
    · by_cases z2 : i = l
      · subst z2
        rw [List.getElem?_set_self (by rw [r.len]; exact hi)] at q2
        cases q2
        cases o2
      · rw [List.getElem?_set_ne z] at q1 h1
        rw [List.getElem?_set_ne z2] at q2 h2
        exact r.one j l s t a q1 q2 o1 o2 h1 h2
theorem Ow.setD {i : Nat} {d : D} {v : V} {a : Addr} (hi : i < e.length) (o : Ow (σ.set i (some v)) (e.set i (some (.d d))) a) : Ow σ e a := by
  obtain ⟨j, s, h1, h2, h3⟩ := o
  by_cases z : i = j
  · subst z
    rw [List.getElem?_set_self hi] at h1
    cases h1
    cases h2
  · rw [List.getElem?_set_ne z] at h1 h3
    exact ⟨j, s, h1, h2, h3⟩
@[simp] def gNm (i : Nat) : FG := fun d e => if i < e.length then some (e.set i (some (.d d))) else none
theorem gp_name (i : Nat) {x : Str} {pos : Pos} {vs : List Nat} (hN : X.N.Nodup) (hi : X.N[i]? = some x := by rfl) (hx : Loc X.env.scope x := by first | exact Or.inl rfl | exact Or.inr rfl) (hv : i ∈ vs := by decide)
    (hf : X.fn x = true ∨ X.env.scope.names.lookup x = some .local := by first | exact .inl rfl | exact .inr rfl | assumption) : GP X (.Name x pos) vs (gNm i) := by
  refine ⟨⟨fun pins s σ H v u Q I r ⟨W, e, d, e', sr, rp, hfd, k⟩ => ?_⟩⟩
  unfold gNm at hfd
  split at hfd
  · rename_i hl
    cases hfd
    refine (pg_name hN hi hx hf).run pins s σ H v u Q I r (k _ (sr.setD (by rw [← sr.len]; exact hl) rp) (List.length_set ..) (fun j hj => List.getElem?_set_ne fun (z : i = j) => hj (by rw [← z]; exact hv)) fun a o => o.setD hl)
  · cases hfd
@[simp] def gsNil : List D → En → Option En := fun ds e => match ds with
  | [] => some e
  | _ => none
@[simp] def gsCons (f : FG) (fs : List D → En → Option En) : List D → En → Option En := fun ds e => match ds with
  | [] => none
  | d :: r => (f d e).bind fun e1 => fs r e1
theorem gps_nil {vs : List Nat} : GPs X [] vs gsNil := by
  refine ⟨⟨fun pins s σ H us vals Q I r ⟨W, e, ds, e', sr, rp, hfd, k⟩ => ?_⟩⟩
  cases ds with
  | nil =>
    cases (show us = [] from rp)
    cases hfd
    exact pgs_nil.run pins s σ H [] vals Q I r ⟨rfl, k σ sr rfl (fun _ _ => rfl) fun _ h => h⟩
  | cons d r => cases hfd
theorem gps_cons {a : Expr} {es : List Expr} {vs : List Nat} {f : FG} {fs : List D → En → Option En} (h1 : GP X a vs f) (h2 : GPs X es vs fs)
    (hs : (assignEach (a :: es) X.env).map (·.2) = assign a X.env :: (assignEach es X.env).map (·.2) := by rfl) : GPs X (a :: es) vs (gsCons f fs) := by
  refine ⟨⟨fun pins s σ H us vals Q I r ⟨W, e, ds, e', sr, rp, hfd, k⟩ => ?_⟩⟩
  cases ds with
  | nil => cases hfd
  | cons d ds =>
    obtain ⟨v, ur, rfl, p1, p2⟩ := rp
    obtain ⟨e1, he1, hfd⟩ := Option.bind_eq_some_iff.mp hfd
    refine (pgs_cons h1.pg h2.pgs hs).run pins s σ H _ vals Q I r ⟨v, ur, rfl, W, e, d, e1, sr, .of p1, he1, fun σ1 sr1 l1 a1 o1 => ?_⟩
    exact ⟨W, e1, ds, e', sr1, p2, hfd, fun σ2 sr2 l2 a2 o2 => k σ2 sr2 (l2.trans l1) (fun j hj => (a2 j hj).trans (a1 j hj)) fun a h => o1 a (o2 a h)⟩
@[simp] def gTp (n : Nat) (fs : List D → En → Option En) : FG := fun d e => match d with
  | .tup xs => if xs.length = n then fs xs e else none
  | _ => none
theorem gp_tup {es : List Expr} {k : Nat} {pos : Pos} {vs : List Nat} {fs : List D → En → Option En} {n : Nat} (hc : X.calm = true) (h : GPs X es vs fs) (hn : (assignEach es X.env).length = n := by rfl) (hst : (assignEach es X.env).findIdx? (·.1) = none := by rfl) :
    GP X (.Tuple es k pos) vs (gTp n fs) := by
  refine ⟨⟨fun pins s σ H v u Q I r ⟨W, e, d, e', sr, rp, hfd, kk⟩ => ?_⟩⟩
  cases d with
  | tup xs =>
    have hfd' : (if xs.length = n then fs xs e else none) = some e' := hfd
    split at hfd'
    · rename_i hl
      obtain ⟨a, us, e1, q1, q2⟩ : ∃ a us, v = .ref a ∧ SqT X.K H a us ∧ RpL W X.K H xs us := by
        rcases (show Rp W X.K H (.tup xs) v ∨ ∃ ys a vs, D.tup xs = .tup ys ∧ v = .ref a ∧ SqT X.K H a vs ∧ RpL W X.K H ys vs from rp) with ⟨a, us, e1, q1, q2⟩ | ⟨ys, a, us, ey, e1, q1, q2⟩
        · exact ⟨a, us, e1, q1.1, q2⟩
        · cases ey
          exact ⟨a, us, e1, q1, q2⟩
      exact (pg_tup hc h.pgs hn hst).run pins s σ H v u Q I r ⟨a, us, e1, q1, by rw [← q2.length]; exact hl, W, e, xs, e', sr, q2, hfd', kk⟩
    · cases hfd'
  | _ => cases hfd
end

/-! ## list comprehensions -/
@[simp] def wipeE (e : En) : List Nat → En
  | [] => e
  | v :: vs => (wipeE e vs).set v none
theorem wipeE_length (e : En) : ∀ vs : List Nat, (wipeE e vs).length = e.length
  | [] => rfl
  | v :: vs => by unfold wipeE; rw [List.length_set, wipeE_length e vs]
theorem wipeE_in {e : En} {i : Nat} {s : S} : ∀ {vs : List Nat}, (wipeE e vs)[i]? = some (some s) → e[i]? = some (some s) ∧ i ∉ vs
  | [], h => ⟨h, by simp⟩
  | v :: vs, h => by
    unfold wipeE at h
    by_cases hi : v = i
    · subst hi
      by_cases hv : v < (wipeE e vs).length
      · rw [List.getElem?_set_self hv] at h; cases h
      · rw [List.getElem?_eq_none (by simpa using hv)] at h; cases h
    · rw [List.getElem?_set_ne hi] at h
      obtain ⟨h1, h2⟩ := wipeE_in h
      exact ⟨h1, by simp only [List.mem_cons, not_or]; exact ⟨fun z => hi z.symm, h2⟩⟩
theorem wipe_stay {σ : St} {i : Nat} : ∀ {vs : List Nat}, i ∉ vs → (wipe σ vs)[i]? = σ[i]?
  | [], _ => rfl
  | v :: vs, h => by
    unfold wipe
    rw [List.getElem?_set_ne fun z => h (by rw [z]; exact List.mem_cons_self), wipe_stay fun z => h (List.mem_cons_of_mem _ z)]
theorem wipe_gone {σ : St} {i : Nat} : ∀ {vs : List Nat}, i ∈ vs → i < σ.length → (wipe σ vs)[i]? = some none
  | v :: vs, h, hl => by
    unfold wipe
    by_cases z : v = i
    · subst z
      rw [List.getElem?_set_self (by rw [wipe_length]; exact hl)]
    · rw [List.getElem?_set_ne z]
      rcases List.mem_cons.mp h with q | q
      · exact absurd q.symm z
      · exact wipe_gone q hl
theorem wipe_same {σ σ' : St} {vs : List Nat} (hl : σ'.length = σ.length) (h : ∀ j, j ∉ vs → σ'[j]? = (wipe σ vs)[j]?) : wipe σ' vs = wipe σ vs := by
  apply List.ext_getElem?
  intro i
  by_cases hi : i ∈ vs
  · by_cases hn : i < σ.length
    · rw [wipe_gone hi hn, wipe_gone hi (by rw [hl]; exact hn)]
    · rw [List.getElem?_eq_none (by rw [wipe_length, hl]; omega), List.getElem?_eq_none (by rw [wipe_length]; omega)]
  · rw [wipe_stay hi]
    exact h i hi
section
variable {X : Cx} {W W' : List Addr} {K : PySem.W.Frag} {H H' : Hp} {σ : St} {e : En}
theorem SR.wipe (r : SR W K H σ e) (vs : List Nat) : SR W K H (L2.wipe σ vs) (wipeE e vs) where
  wm := r.wm
  len := by rw [wipeE_length, wipe_length, r.len]
  sl := fun i s q => by
    obtain ⟨q1, n⟩ := wipeE_in q
    obtain ⟨v, h1, h2⟩ := r.sl i s q1
    exact ⟨v, by rw [wipe_stay n]; exact h1, h2⟩
  one := fun i j s t a q1 q2 o1 o2 h1 h2 => by
    obtain ⟨q1, n1⟩ := wipeE_in q1
    obtain ⟨q2, n2⟩ := wipeE_in q2
    rw [wipe_stay n1] at h1
    rw [wipe_stay n2] at h2
    exact r.one i j s t a q1 q2 o1 o2 h1 h2
end
/-- the comprehension's tests -/
structure TPs (X : Cx) (ifs : List Expr) (f : FT) : Prop where
  pts : PTs X ifs (tT X.K f)
@[simp] def tAll : FT := fun _ => some true
theorem tps_nil {X : Cx} : TPs X [] tAll := ⟨⟨fun pins s σ H Q I ⟨W, e, b, sr, hf, k⟩ => by cases hf; exact pts_nil.run pins s σ H Q I (k W H (.refl sr.wm))⟩⟩
theorem tps_one {X : Cx} {c : Expr} {f : FT} (h : TP X c f) : TPs X [c] f := ⟨pts_one h.pt⟩
@[simp] def lcL (bind : FG) (ft : FT) (fe : FP) (e : En) : List D → Option (List D)
  | [] => some []
  | d :: ds => (bind d e).bind fun e1 => (ft e1).bind fun b => if b = true then (fe e1).bind fun r => r.item.bind fun x => (lcL bind ft fe e ds).map fun xs => x :: xs else lcL bind ft fe e ds
@[simp] def pLc (vs : List Nat) (fi : FI) (bind : FG) (ft : FT) (fe : FP) : FP := fun e => (fi e).bind fun p => (lcL bind ft fe (wipeE e vs) p.1).bind fun xs => if xs.length ≤ SZ then some (.fr xs) else none

section
variable {K : PySem.W.Frag}
/-- between the turns: what is made (done, at D) and what is to come -/
structure LcAt (K : PySem.W.Frag) (W' : List Addr) (H1 : Hp) (D0 : Addr) (bind : FG) (ft : FT) (fe : FP) (e : En) (ds xs : List D) (i : Nat) (H : Hp) (W2 : List Addr) (dn rest : List D) (acc : List V) : Prop where
  g : Grow W' H1 W2 H
  dm : D0 ∈ W2
  at_ : H D0 = some (.lst acc)
  rp : RpL W2 K H dn acc
  todo : lcL bind ft fe e (ds.drop i) = some rest
  all : dn ++ rest = xs
end
theorem lc_read {tg : Expr} {K : PySem.W.Frag} {W W' : List Addr} {H H1 : Hp} {σ : St} {e : En} {J : It} {ds xs : List D} {vs : List Nat} {bind : FG} {ft : FT} {fe : FP} {Q : VK} {D0 : Addr} (sr : SR W K H σ e) (g1 : Grow W H W' H1) (hn : H1 D0 = none)
    (it : ∀ W2 H2, Grow W' H1 W2 H2 → ItAt tg W2 K H2 J ds) (hx : lcL bind ft fe (wipeE e vs) ds = some xs) (hz : xs.length ≤ SZ) (k : KQ W K H (.fr xs) Q) :
    ∃ Wi : Nat → Nat → Hp → Prop, (∃ m, Wi 0 m (upd H1 D0 (.lst []))) ∧ ∀ i m H, Wi i m H →
      (J.stop i H ∧ Q (.ref D0) H) ∨ (J.go i H ∧ ∃ Nx : Hp → Prop, (∀ H', Nx H' → ∃ m', m' < m ∧ Wi (i + 1) m' H') ∧ ∀ x H', J.yld i H x H' → tG tg K vs bind x (wipe σ vs) H' fun σ2 H2 => wipe σ2 vs = wipe σ vs ∧ tT K ft σ2 H2 fun b H3 =>
        if b = true then tP K fe σ2 H3 fun y H4 => ∃ acc, H4 D0 = some (.lst acc) ∧ acc.length < sizeLine ∧ Nx (upd H4 D0 (.lst (acc ++ [y]))) else Nx H3) := by
  refine ⟨fun i m H => m = ds.length - i ∧ i ≤ ds.length ∧ ∃ W2 dn rest acc, LcAt K W' H1 D0 bind ft fe (wipeE e vs) ds xs i H W2 dn rest acc, ⟨ds.length, rfl, Nat.zero_le _, D0 :: W', [], xs, [], ?_⟩, ?_⟩
  · exact ⟨.lst g1.wm hn, List.mem_cons_self, upd_same, rfl, hx, rfl⟩
  · rintro i m H2 ⟨rfl, hi, W2, dn, rest, acc, L⟩
    have I2 := it W2 H2 L.g
    by_cases hlt : i < ds.length
    · refine .inr ?_
      obtain ⟨d, hd⟩ : ∃ d, ds[i]? = some d := ⟨ds[i], List.getElem?_eq_getElem hlt⟩
      obtain ⟨hgo, hy⟩ := I2.1 i d hd
      refine ⟨hgo, fun H' => ∃ W2 dn rest acc, LcAt K W' H1 D0 bind ft fe (wipeE e vs) ds xs (i + 1) H' W2 dn rest acc, fun H' q => ⟨ds.length - (i + 1), by omega, rfl, hlt, q⟩, fun x H3 y => ?_⟩
      obtain ⟨kp, rp⟩ := hy x H3 y
      have todo := L.todo
      have ed : ds.drop i = d :: ds.drop (i + 1) := by
        rw [List.drop_eq_getElem_cons hlt]
        rw [List.getElem?_eq_getElem hlt] at hd
        cases hd
        rfl
      rw [ed] at todo
      obtain ⟨e1, he1, todo⟩ := Option.bind_eq_some_iff.mp todo
      obtain ⟨b, hb, todo⟩ := Option.bind_eq_some_iff.mp todo
      have g3 : Grow W2 H2 W2 H3 := .of L.g.wm kp
      have srw : SR W2 K H3 (wipe σ vs) (wipeE e vs) := ((g1.trans L.g).trans g3).sr (sr.wipe vs)
      refine ⟨W2, wipeE e vs, d, e1, srw, rp, he1, fun σ1 sr1 l1 a1 o1 => ⟨wipe_same (l1.trans (wipe_length σ vs)) a1, ?_⟩⟩
      refine ⟨W2, e1, b, sr1, hb, fun W4 H4 g4 => ?_⟩
      have g24 := g3.trans g4
      have at4 := g24.keep _ _ L.at_
      have rp4 := RpL.mono (g24.ex L.g.wm) _ L.rp
      have dm4 := g24.sub _ L.dm
      have g14 := L.g.trans g24
      cases b with
      | false => exact iteF ⟨W4, dn, rest, acc, g14, dm4, at4, rp4, todo, L.all⟩
      | true =>
        refine iteT ?_
        obtain ⟨r, hr, todo⟩ := Option.bind_eq_some_iff.mp todo
        obtain ⟨z, hz1, todo⟩ := Option.bind_eq_some_iff.mp todo
        obtain ⟨rest', hr2, erest⟩ := Option.map_eq_some_iff.mp todo
        refine ⟨W4, e1, r, g4.sr sr1, hr, fun yv W5 H5 g5 k5 => ?_⟩
        have g50 := g5.base g4.wm
        have at5 := g5.keep _ _ at4
        have rp5 := RpL.mono (g50.ex g4.wm) _ rp4
        have rz := k5.item g5 g4.wm hz1
        have x6 : Ex W4 H5 W4 (upd H5 D0 (.lst (acc ++ [yv]))) := ⟨g50.wm, fun a o h n => ⟨by rw [upd_ne fun (q : a = D0) => n (by rw [q]; exact dm4)]; exact h, n⟩⟩
        refine ⟨acc, at5, ?_, W4, dn ++ [z], rest', acc ++ [yv], ⟨?_, dm4, upd_same, RpL.mono x6 _ (rp5.append (.one rz)), hr2, by rw [List.append_assoc, ← L.all, ← erest]; rfl⟩⟩
        · have q := L.all
          rw [← erest] at q
          have q2 := congrArg List.length q
          rw [List.length_append, List.length_cons] at q2
          have q3 := L.rp.length
          rw [SZ_eq]
          omega
        · have g15 := g14.trans g50
          exact ⟨fun a o h => by rw [upd_ne (ne_of_none h hn)]; exact g15.keep a o h, g15.sub, g15.new, fun a h => by
            by_cases q : a = D0
            · subst q; rw [upd_same]; trivial
            · rw [upd_ne q]; exact g15.wm a h⟩
    · have ei : i = ds.length := by omega
      subst ei
      refine .inl ⟨I2.2, ?_⟩
      have todo := L.todo
      rw [List.drop_length] at todo
      cases todo
      have ea := L.all
      rw [List.append_nil] at ea
      subst ea
      exact k _ W2 H2 (g1.trans L.g) ⟨D0, acc, rfl, g1.fresh hn, L.dm, L.at_, L.rp⟩
section
variable {X : Cx}
theorem pp_lc {elt tg iter : Expr} {ifs : List Expr} {scope : Scope} {own : List (Str × Nat)} {pos : Pos} {fi : FI} {bind : FG} {ft : FT} {fe : FP} (hc : X.calm = true) (hN : X.N.Nodup) (hi : IP X tg iter fi) (ok : BlkOk X.N X.env.scope scope own)
    (hg : ∀ (s : Shared) (H : Hp) (C : Addr) (cl : List (Str × Addr)) (fp : List Addr), GP (X.blk s H scope (compEnvC scope cl C X.env) fp) tg (own.map (·.2)) bind)
    (ht : ∀ (s : Shared) (H : Hp) (C : Addr) (cl : List (Str × Addr)) (fp : List Addr), TPs (X.blk s H scope (compEnvC scope cl C X.env) fp) ifs ft)
    (he : ∀ (s : Shared) (H : Hp) (C : Addr) (cl : List (Str × Addr)) (fp : List Addr), PP (X.blk s H scope (compEnvC scope cl C X.env) fp) elt fe)
    (hs : ∀ x, foldedSetIterable iter X.env x = pure x := by intro _; rfl) : PP X (.ListComp elt [⟨tg, iter, ifs, 0⟩] scope pos) (pLc (own.map (·.2)) fi bind ft fe) := by
  refine PP.of ⟨_, pe_lc (g := tG tg X.K (own.map (·.2)) bind) (tt := tT X.K ft) (te := tP X.K fe) hc hN hi.pi ok (fun s H C cl fp => (hg s H C cl fp).pg) (fun s H C cl fp => (ht s H C cl fp).pts) (fun s H C cl fp => (he s H C cl fp).pe) hs, fun W H σ e Q r sr hf k => ?_⟩
  obtain ⟨⟨ds, bb⟩, e1, hf⟩ := Option.bind_eq_some_iff.mp hf
  obtain ⟨xs, e2, hf⟩ := Option.bind_eq_some_iff.mp hf
  split at hf
  · rename_i hz
    cases hf
    exact ⟨W, e, ds, bb, sr, e1, fun J W' H1 g1 it D0 hn => lc_read sr g1 hn (fun W2 H2 g => it W2 H2 (.inl g)) e2 hz k⟩
  · cases hf
end
end DL

set_option maxHeartbeats 2000000
namespace DL
open PySem PySem.Spec PyProof.Rows L2

/-! ## effectful expressions, one behind another -/
@[simp] def Out.bind (o : Out) (f : D → En → Out) : Out := match o with
  | .stuck => .stuck
  | .ok s e => f s.view e
  | .ex x e => .ex x e
@[simp] def rvO (o : Option RV) (e : En) : Out := match o with
  | some (.fz x) => .ok (.d x) e
  | some (.fr xs) => .ok (.lst xs) e
  | _ => .stuck
inductive OL where
  | stuck | ok (ds : List D) (e : En) | ex (x : XD) (e : En)
@[simp] def OL.bind (o : OL) (f : List D → En → Out) : Out := match o with
  | .stuck => .stuck
  | .ok ds e => f ds e
  | .ex x e => .ex x e
@[simp] def OL.cons (d : D) (o : OL) : OL := match o with
  | .stuck => .stuck
  | .ok ds e => .ok (d :: ds) e
  | .ex x e => .ex x e
@[simp] def Out.cons (o : Out) (fs : En → OL) : OL := match o with
  | .stuck => .stuck
  | .ok s e => OL.cons s.view (fs e)
  | .ex x e => .ex x e
section
variable {W W' W1 W2 : List Addr} {K : PySem.W.Frag} {mg : Str → Option Value} {Wx : WX} {H H' H1 H2 : Hp} {σ : St} {e e' e1 : En} {Q Q0 : VK}
theorem OutK.go (x : EX W H σ e W1 H1 σ e1) : ∀ {o : Out}, OutK K mg Wx W H σ e Q o → OutK K mg Wx W1 H1 σ e1 Q o
  | .stuck, h => h
  | .ok s e', h => fun v W' H' sr y r f => h v W' H' sr (x.trans y) r fun o a q => ⟨x.dom a (f o a q).1, (f o a q).2⟩
  | .ex z e', h => fun c d W' H' sr y r => h c d W' H' sr (x.trans y) r
/-- the value frozen -/
def DK (K : PySem.W.Frag) (mg : Str → Option Value) (Wx : WX) (W : List Addr) (H : Hp) (σ : St) (e : En) (Q : VK) : Out → Prop
  | .stuck => False
  | .ok s e' => ∀ v W' H', SR W' K H' σ e' → EX W H σ e W' H' σ e' → Rp W' K H' s.view v → Q v H'
  | .ex x e' => ∀ cls d W' H', SR W' K H' σ e' → EX W H σ e W' H' σ e' → XR mg W' K H' x cls d → Wx cls d σ H'
/-- less is owned -/
theorem SR.less (r : SR W' K H' σ e) (s : ∀ a ∈ W, a ∈ W') (o : ∀ a, Ow σ e a → a ∈ W) : SR W K H' σ e where
  wm := fun a h => r.wm a (s a h)
  len := r.len
  sl := fun i t h => by
    obtain ⟨v, h1, h2⟩ := r.sl i t h
    refine ⟨v, h1, ?_⟩
    cases t with
    | d x => exact Rp.weak s (fun a h => r.wm a (s a h)) h2 r.wm
    | lst xs =>
      obtain ⟨a, vs, rfl, q1, q2, q3⟩ := h2
      exact ⟨a, vs, rfl, o a ⟨i, _, h, rfl, h1⟩, q2, RpL.weak s r.wm q3⟩
  one := r.one
theorem mem_drop {a b : Addr} {W : List Addr} : b ∈ W.filter (fun z => decide (z ≠ a)) ↔ b ∈ W ∧ b ≠ a := by
  rw [List.mem_filter]
  simp
/-- what is new and nobody's is frozen -/
theorem freeze {xs : List D} {v : V} (wm : WM W H) (sr : SR W' K H' σ e') (y : EX W H σ e W' H' σ e') (r : RS W' K H' (.lst xs) v) (f : ∀ a, v = .ref a → H a = none ∧ ¬ Ow σ e' a) :
    ∃ W2, SR W2 K H' σ e' ∧ EX W H σ e W2 H' σ e' ∧ Rp W2 K H' (.lst xs) v := by
  obtain ⟨a, vs, rfl, q1, q2, q3⟩ := r
  obtain ⟨f1, f2⟩ := f a rfl
  have sb : ∀ b ∈ W'.filter (fun z => decide (z ≠ a)), b ∈ W' := fun b hb => (mem_drop.mp hb).1
  have sr2 : SR (W'.filter fun z => decide (z ≠ a)) K H' σ e' := sr.less sb fun b o => mem_drop.mpr ⟨sr.ow o, fun z => f2 (z ▸ o)⟩
  refine ⟨_, sr2, ⟨y.keep, fun b o q n z => y.frz b o q n (sb b z), fun b hb n => ?_, y.sub, y.dom⟩, ⟨a, vs, rfl, ⟨q2, fun z => (mem_drop.mp z).2 rfl⟩, RpL.weak sb sr.wm q3⟩⟩
  obtain ⟨h1, h2⟩ := y.tmp b hb n
  refine ⟨mem_drop.mpr ⟨h1, fun z => ?_⟩, h2⟩
  subst z
  exact isSome_of_mut (wm b hb) f1
theorem DK.out (wm : WM W H) : ∀ {o : Out}, DK K mg Wx W H σ e Q o → OutK K mg Wx W H σ e Q o
  | .stuck, h => h
  | .ex z e', h => h
  | .ok (.d x) e', h => fun v W' H' sr y r _ => h v W' H' sr y r
  | .ok (.lst xs) e', h => fun v W' H' sr y r f => by
    obtain ⟨W2, s2, y2, r2⟩ := freeze wm sr y r (f rfl)
    exact h _ _ H' s2 y2 r2
theorem DK.bind {o : Out} {f : D → En → Out} (wm : WM W H) (h : OutK K mg Wx W H σ e Q (o.bind f))
    (k : ∀ d v e1 W1 H1, SR W1 K H1 σ e1 → EX W H σ e W1 H1 σ e1 → Rp W1 K H1 d v → OutK K mg Wx W1 H1 σ e1 Q (f d e1) → Q0 v H1) : OutK K mg Wx W H σ e Q0 o :=
  DK.out wm (match o with
    | .stuck => h
    | .ex z e' => h
    | .ok s e1 => fun v W1 H1 sr1 x r => k s.view v e1 W1 H1 sr1 x r (OutK.go (o := f s.view e1) x h))
theorem OutK.rv (sr : SR W K H σ e) : ∀ {r : RV}, OutK K mg Wx W H σ e Q (rvO (some r) e) → KQ W K H r Q
  | .fz x, h => fun v W' H' g q => h v W' H' (g.sr sr) (g.fx sr) q fun z => nomatch z
  | .fr xs, h => fun v W' H' g q => by
    obtain ⟨a, vs, ev, h0, h1, h2, h3⟩ := q
    exact h v W' H' (g.sr sr) (g.fx sr) ⟨a, vs, ev, h1, h2, h3⟩ fun _ b eb => by
      rw [ev] at eb
      cases eb
      exact ⟨h0, fun o => sr.thr (sr.ow o) h0⟩
  | .ow xs, h => h.elim
theorem OutK.rvo (sr : SR W K H σ e) {o : Option RV} (h : OutK K mg Wx W H σ e Q (rvO o e)) : ∃ r, o = some r ∧ KQ W K H r Q := by
  cases o with
  | none => exact h.elim
  | some r => exact ⟨r, rfl, OutK.rv sr h⟩
/-- several values -/
def OLK (K : PySem.W.Frag) (mg : Str → Option Value) (Wx : WX) (W : List Addr) (H : Hp) (σ : St) (e : En) (Q : List V → Hp → Prop) : OL → Prop
  | .stuck => False
  | .ok ds e' => ∀ vs W' H', SR W' K H' σ e' → EX W H σ e W' H' σ e' → RpL W' K H' ds vs → Q vs H'
  | .ex x e' => ∀ cls d W' H', SR W' K H' σ e' → EX W H σ e W' H' σ e' → XR mg W' K H' x cls d → Wx cls d σ H'
theorem OLK.bind {o : OL} {f : List D → En → Out} {Q0 : List V → Hp → Prop} (h : OutK K mg Wx W H σ e Q (o.bind f))
    (k : ∀ ds vs e1 W1 H1, SR W1 K H1 σ e1 → EX W H σ e W1 H1 σ e1 → RpL W1 K H1 ds vs → OutK K mg Wx W1 H1 σ e1 Q (f ds e1) → Q0 vs H1) : OLK K mg Wx W H σ e Q0 o :=
  match o with
    | .stuck => h
    | .ex z e' => h
    | .ok ds e1 => fun vs W1 H1 sr1 x r => k ds vs e1 W1 H1 sr1 x r (OutK.go (o := f ds e1) x h)
theorem OLK.go {Q : List V → Hp → Prop} (x : EX W H σ e W1 H1 σ e1) : ∀ {o : OL}, OLK K mg Wx W H σ e Q o → OLK K mg Wx W1 H1 σ e1 Q o
  | .stuck, h => h
  | .ok s e', h => fun v W' H' sr y r => h v W' H' sr (x.trans y) r
  | .ex z e', h => fun c d W' H' sr y r => h c d W' H' sr (x.trans y) r
theorem RpL.vzL : ∀ {ds : List D} {vs : List V}, RpL W K H ds vs → VzL W K H ds vs
  | [], _, h => h
  | d :: ds, _, ⟨v, us, ev, h1, h2⟩ => ⟨v, us, ev, .of h1, RpL.vzL h2⟩
end
abbrev FL := En → OL
def tMs (K : PySem.W.Frag) (mg : Str → Option Value) (Wx : WX) (f : FL) : TA := fun σ H Q => ∃ (W : List Addr) (e : En), SR W K H σ e ∧ OLK K mg Wx W H σ e Q (f e)
structure PMs (X : Cx) (Wx : WX) (es : List Expr) (f : FL) : Prop where
  pa : PA X es (tMs X.K X.mg Wx f)
theorem PMs.of {X : Cx} {Wx : WX} {es : List Expr} {f : FL} (h : ∃ t : TA, PA X es t ∧ ∀ (W : List Addr) (H : Hp) (σ : St) (e : En) (Q : List V → Hp → Prop), SR W X.K H σ e → OLK X.K X.mg Wx W H σ e Q (f e) → t σ H Q) : PMs X Wx es f :=
  let ⟨_, p, k⟩ := h; ⟨⟨fun pos pins s σ H Q I ⟨W, e, a, b⟩ => p.run pos pins s σ H Q I (k W H σ e Q a b)⟩⟩
theorem PMs.run {X : Cx} {Wx : WX} {es : List Expr} {f : FL} (h : PMs X Wx es f) : ∃ t : TA, PA X es t ∧ ∀ (W : List Addr) (H : Hp) (σ : St) (e : En) (Q : List V → Hp → Prop), SR W X.K H σ e → OLK X.K X.mg Wx W H σ e Q (f e) → t σ H Q :=
  ⟨_, h.pa, fun W H σ e Q a b => ⟨W, e, a, b⟩⟩
section
variable {X : Cx} {Wx : WX} {a b c : Expr} {es rest : List Expr} {fa fb fc : FM} {fs : FL} {pos : Pos} {g : D → D → Option RV}
@[simp] def mPP (f : FP) : FM := fun e => rvO (f e) e
theorem pm_pp {f : FP} (h : PP X a f) : PM X Wx a (mPP f) := by
  obtain ⟨t, p, k⟩ := h.run
  refine PM.of ⟨t, p, fun W H σ e Q sr h => ?_⟩
  obtain ⟨r, er, kq⟩ := OutK.rvo sr h
  exact k W H σ e Q r sr er kq
@[simp] def m2 (g : D → D → Option RV) (fa fb : FM) : FM := fun e => (fa e).bind fun a e1 => (fb e1).bind fun b e2 => rvO (g a b) e2
theorem pm_two {rl : R2} {t : TE} {q : Expr} (pt : ∀ ta tb, PE X a ta → PE X b tb → PE X q (tOp rl ta tb)) (h2 : ∀ (W : List Addr) (H : Hp) (x y : V) (dx dy : D) (r : RV) (Q : VK), WM W H → Vz W X.K H dx x → Vz W X.K H dy y → g dx dy = some r → KQ W X.K H r Q → rl x y H Q)
    (ha : PM X Wx a fa) (hb : PM X Wx b fb) : PM X Wx q (m2 g fa fb) := by
  obtain ⟨ta, pa, ka⟩ := ha.run
  obtain ⟨tb, pb, kb⟩ := hb.run
  refine PM.of ⟨_, pt _ _ pa pb, fun W H σ e Q sr h => ?_⟩
  refine ka W H σ e _ sr (DK.bind sr.wm h fun d v e1 W1 H1 sr1 x1 r1 h1 => kb W1 H1 σ e1 _ sr1 (DK.bind sr1.wm h1 fun d2 u e2 W2 H2 sr2 x2 r2 h2' => ?_))
  obtain ⟨r, er, kq⟩ := OutK.rvo sr2 h2'
  exact h2 W2 H2 v u d d2 r Q sr2.wm (.of (Rp.mono (x2.ex sr1) d r1)) (.of r2) er kq
theorem pm_bin {op : Operator} (ho : Op2 X (binaryOp op) g) (ha : PM X Wx a fa) (hb : PM X Wx b fb) : PM X Wx (.BinOp a op b pos) (m2 g fa fb) := by
  obtain ⟨rl, h1, h2⟩ := ho.run
  exact pm_two (t := tNone) (fun ta tb pa pb => pe_op h1 pa pb) h2 ha hb
where tNone : TE := fun _ _ _ => True
theorem pm_cmp {op : CmpOp} (ho : Op2 X (compareOp op) g) (ha : PM X Wx a fa) (hb : PM X Wx b fb) (hm : behindInMarks op b = false := by first | exact nomark _ | with_unfolding_all rfl) : PM X Wx (.Compare a [op] [b] pos) (m2 g fa fb) := by
  obtain ⟨rl, h1, h2⟩ := ho.run
  exact pm_two (t := pm_bin.tNone) (fun ta tb pa pb => pe_cmpR h1 pa pb hm) h2 ha hb
theorem pm_ix (ha : PM X Wx a fa) (hb : PM X Wx b fb) (hs : PlainIx b := by intro _ _; rfl) : PM X Wx (.Subscript a b pos) (m2 gIx fa fb) := by
  obtain ⟨rl, h1, h2⟩ := (ix_ok (X := X)).run
  exact pm_two (t := pm_bin.tNone) (fun ta tb pa pb => pe_ix h1 pa pb hs) h2 ha hb
/-! ### and, or, not, if as values -/
def D.b? : D → Option Bool
  | .bl b => some b
  | _ => none
@[simp] def mAnd (fa fb : FM) : FM := fun e => (fa e).bind fun a e1 => match a with
  | .bl b => if b = true then fb e1 else .ok (.d (.bl false)) e1
  | _ => .stuck
@[simp] def mOr (fa fb : FM) : FM := fun e => (fa e).bind fun a e1 => match a with
  | .bl b => if b = true then .ok (.d (.bl true)) e1 else fb e1
  | _ => .stuck
@[simp] def mNot (fa : FM) : FM := fun e => (fa e).bind fun a e1 => match a with
  | .bl b => .ok (.d (.bl (!b))) e1
  | _ => .stuck
theorem OutK.d {W : List Addr} {K : PySem.W.Frag} {mg : Str → Option Value} {H : Hp} {σ : St} {e : En} {Q : VK} {x : D} {v : V} (sr : SR W K H σ e) (h : OutK K mg Wx W H σ e Q (.ok (.d x) e)) (r : Rp W K H x v) : Q v H :=
  h v W H sr .refl r fun z => nomatch z
theorem pm_one {op} (h : PM X Wx a fa) : PM X Wx (.BoolOp op [a] pos) fa := let ⟨t, p, k⟩ := h.run; PM.of ⟨t, pe_one p, k⟩
theorem pm_and (ha : PM X Wx a fa) (hb : PM X Wx (.BoolOp .And (b :: rest) pos) fb) : PM X Wx (.BoolOp .And (a :: b :: rest) pos) (mAnd fa fb) := by
  obtain ⟨t, p, ka⟩ := ha.run
  obtain ⟨u, p', kb⟩ := hb.run
  refine PM.of ⟨_, pe_and p p', fun W H σ e Q sr h => ka W H σ e _ sr (DK.bind sr.wm h fun d v e1 W1 H1 sr1 x1 r1 h1 => ?_)⟩
  cases d with
  | bl q =>
    refine ⟨q, r1, ?_⟩
    cases q with
    | true => exact kb W1 H1 σ e1 Q sr1 h1
    | false => exact OutK.d sr1 h1 rfl
  | _ => exact h1.elim
theorem pm_or (ha : PM X Wx a fa) (hb : PM X Wx (.BoolOp .Or (b :: rest) pos) fb) : PM X Wx (.BoolOp .Or (a :: b :: rest) pos) (mOr fa fb) := by
  obtain ⟨t, p, ka⟩ := ha.run
  obtain ⟨u, p', kb⟩ := hb.run
  refine PM.of ⟨_, pe_or p p', fun W H σ e Q sr h => ka W H σ e _ sr (DK.bind sr.wm h fun d v e1 W1 H1 sr1 x1 r1 h1 => ?_)⟩
  cases d with
  | bl q =>
    refine ⟨q, r1, ?_⟩
    cases q with
    | false => exact kb W1 H1 σ e1 Q sr1 h1
    | true => exact OutK.d sr1 h1 rfl
  | _ => exact h1.elim
theorem pm_not (ha : PM X Wx a fa) : PM X Wx (.UnaryOp .Not a pos) (mNot fa) := by
  obtain ⟨t, p, ka⟩ := ha.run
  refine PM.of ⟨_, pe_not p, fun W H σ e Q sr h => ka W H σ e _ sr (DK.bind sr.wm h fun d v e1 W1 H1 sr1 x1 r1 h1 => ?_)⟩
  cases d with
  | bl q => exact ⟨q, r1, OutK.d sr1 h1 rfl⟩
  | _ => exact h1.elim
@[simp] def mIf (t : FT) (fa fb : FM) : FM := fun e => match t e with
  | some q => if q = true then fa e else fb e
  | none => .stuck
theorem pm_if {ft : FT} (hc : TP X c ft) (ha : PM X Wx a fa) (hb : PM X Wx b fb) : PM X Wx (.IfExp c a b pos) (mIf ft fa fb) := by
  obtain ⟨t, p, kc⟩ := hc.run
  obtain ⟨ua, pa, ka⟩ := ha.run
  obtain ⟨ub, pb, kb⟩ := hb.run
  refine PM.of ⟨_, pe_ifExp p pa pb, fun W H σ e Q sr h => ?_⟩
  unfold mIf at h
  split at h
  · rename_i q eq
    refine kc W H σ e _ q sr eq fun W1 H1 g1 => ?_
    have h' := OutK.go (g1.fx sr) h
    cases q with
    | true => exact ka W1 H1 σ e Q (g1.sr sr) h'
    | false => exact kb W1 H1 σ e Q (g1.sr sr) h'
  · exact h.elim
/-! ### argument lists, displays, built-in functions -/
@[simp] def lNil : FL := fun e => .ok [] e
@[simp] def lCons (fa : FM) (fs : FL) : FL := fun e => (fa e).cons fs
theorem am_nil : PMs X Wx [] lNil := PMs.of ⟨_, pa_nil, fun W H σ e Q sr h => h [] W H sr .refl rfl⟩
theorem OLK.cons {W : List Addr} {K : PySem.W.Frag} {mg : Str → Option Value} {H : Hp} {σ : St} {e : En} {Q : List V → Hp → Prop} {d : D} {v : V} (sr : SR W K H σ e) (r : Rp W K H d v) : ∀ {o : OL}, OLK K mg Wx W H σ e Q (OL.cons d o) → OLK K mg Wx W H σ e (fun us H' => Q (v :: us) H') o
  | .stuck, h => h
  | .ex _ _, h => h
  | .ok ds e', h => fun us W' H' sr' x r' => h (v :: us) W' H' sr' x ⟨v, us, rfl, Rp.mono (x.ex sr) d r, r'⟩
theorem am_cons (ha : PM X Wx a fa) (hr : PMs X Wx es fs) (hs : starEach (a :: es) X.env = (false, eval a X.env) :: starEach es X.env := by rfl) : PMs X Wx (a :: es) (lCons fa fs) := by
  obtain ⟨t, p, ka⟩ := ha.run
  obtain ⟨u, p', kb⟩ := hr.run
  refine PMs.of ⟨_, pa_cons p p' hs, fun W H σ e Q sr h => ka W H σ e _ sr ?_⟩
  unfold lCons at h
  revert h
  generalize fa e = o
  intro h
  refine DK.out sr.wm ?_
  cases o with
  | stuck => exact h
  | ex x e1 => exact h
  | ok s e1 =>
    intro v W1 H1 sr1 x r
    exact kb W1 H1 σ e1 _ sr1 (OLK.cons sr1 r (OLK.go x h))
@[simp] def mTup (fs : FL) : FM := fun e => (fs e).bind fun ds e1 => rvO (if ds.length ≤ SZ then some (.fz (.tup ds)) else none) e1
@[simp] def mLst (fs : FL) : FM := fun e => (fs e).bind fun ds e1 => rvO (if ds.length ≤ SZ then some (.fr ds) else none) e1
theorem pm_tup {x1} (h : PMs X Wx es fs) : PM X Wx (.Tuple es x1 pos) (mTup fs) := by
  obtain ⟨t, p, ka⟩ := h.run
  refine PM.of ⟨_, pe_tupN p, fun W H σ e Q sr h => ka W H σ e _ sr (OLK.bind h fun ds vs e1 W1 H1 sr1 x1 r1 h1 => ?_)⟩
  obtain ⟨r, er, kq⟩ := OutK.rvo sr1 h1
  split at er
  · rename_i hz
    cases er
    exact ⟨by rw [SZ_eq, ← r1.length]; exact hz, kq.tup sr1.wm r1⟩
  · cases er
theorem pm_lst (h : PMs X Wx es fs) : PM X Wx (.List es pos) (mLst fs) := by
  obtain ⟨t, p, ka⟩ := h.run
  refine PM.of ⟨_, pe_lst p, fun W H σ e Q sr h => ka W H σ e _ sr (OLK.bind h fun ds vs e1 W1 H1 sr1 x1 r1 h1 => ?_)⟩
  obtain ⟨r, er, kq⟩ := OutK.rvo sr1 h1
  split at er
  · rename_i hz
    cases er
    exact ⟨by rw [SZ_eq, ← r1.length]; exact hz, kq.fr sr1.wm r1⟩
  · cases er
@[simp] def mCa (g : List D → Option RV) (fs : FL) : FM := fun e => (fs e).bind fun ds e1 => rvO (g ds) e1
theorem pm_callB {g : List D → Option RV} {id : String} {x : Str} {p : Pos} (hc : Ca X (.builtin id) g) (hm : X.mg x = none) (ha : PMs X Wx (a :: es) fs) (hg : Gl X x := by rfl) (hv : bootBuiltins x = some (.builtin id) := by decide +kernel) (hn : x ≠ "__name__" := by decide) (hdb : (x == ("__debug__" : Str)) = false := by decide)
    (he : starEach (a :: es) X.env = (false, eval a X.env) :: starEach es X.env := by rfl) (hpl : (backTo pos (starEach es X.env)).any (·.1) = false := by rfl) : PM X Wx (.Call (.Name x p) (a :: es) [] pos) (mCa g fs) := by
  obtain ⟨rl, h1, h2⟩ := hc.run
  obtain ⟨t, pa, ka⟩ := ha.run
  refine PM.of ⟨_, pe_callB h1 hg hm hv pa hn hdb he hpl, fun W H σ e Q sr h => ka W H σ e _ sr (OLK.bind h fun ds vs e1 W1 H1 sr1 x1 r1 h3 => ?_)⟩
  obtain ⟨r, er, kq⟩ := OutK.rvo sr1 h3
  exact h2 W1 H1 vs ds r Q sr1.wm r1.vzL er kq
theorem pm_callT {g : List D → Option RV} {T : String} {x : Str} {p : Pos} (hc : Ca X (.type T) g) (hm : X.mg x = none) (ha : PMs X Wx (a :: es) fs) (hg : Gl X x := by rfl) (hv : bootBuiltins x = some (.type T) := by decide +kernel) (hn : x ≠ "__name__" := by decide) (hdb : (x == ("__debug__" : Str)) = false := by decide)
    (he : starEach (a :: es) X.env = (false, eval a X.env) :: starEach es X.env := by rfl) (hpl : (backTo pos (starEach es X.env)).any (·.1) = false := by rfl) : PM X Wx (.Call (.Name x p) (a :: es) [] pos) (mCa g fs) := by
  obtain ⟨rl, h1, h2⟩ := hc.run
  obtain ⟨t, pa, ka⟩ := ha.run
  refine PM.of ⟨_, pe_callTy h1 hg hm hv pa hn hdb he hpl, fun W H σ e Q sr h => ka W H σ e _ sr (OLK.bind h fun ds vs e1 W1 H1 sr1 x1 r1 h3 => ?_)⟩
  obtain ⟨r, er, kq⟩ := OutK.rvo sr1 h3
  exact h2 W1 H1 vs ds r Q sr1.wm r1.vzL er kq
end
end DL

set_option maxHeartbeats 2000000
namespace DL
open PySem PySem.Spec PyProof.Rows L2

/-! ## a def's mirror, out of its body's -/
@[simp] def outs : List S → En → Option En
  | [], _ => some []
  | s :: ss, e => match e with
    | [] => none
    | o :: r => (if s.own = true then (match o with
      | some (.lst xs) => some (S.lst xs)
      | _ => none) else some s).bind fun t => (outs ss r).map fun q => some t :: q
@[simp] def lkOk (lk : List Nat) : Nat → List S → Bool
  | _, [] => true
  | i, s :: ss => (!s.own || lk.contains i) && lkOk lk (i + 1) ss
@[simp] def Out.back (ss : List S) (s : S) (e : En) : Out := match outs ss e with
  | some e' => .ok s e'
  | none => .stuck
@[simp] def Out.backX (ss : List S) (x : XD) (e : En) : Out := match outs ss e with
  | some e' => .ex x e'
  | none => .stuck
@[simp] def fin (ss : List S) : Fl → Out
  | .nx e => Out.back ss (.d .non) e
  | .rt s e => Out.back ss s e
  | .ex x e => Out.backX ss x e
  | _ => .stuck
@[simp] def enter (n : Nat) (ss : List S) : En := ss.map some ++ List.replicate (n - ss.length) none
@[simp] def fnF (n : Nat) (lk : List Nat) (fb : FS) : List S → Out := fun ss => if lkOk lk 0 ss = true then fin ss (fb (enter n ss)) else .stuck
theorem lkOk_at {lk : List Nat} : ∀ {ss : List S} {k i : Nat} {s : S}, lkOk lk k ss = true → ss[i]? = some s → s.own = true → k + i ∈ lk
  | [], _, _, _, _, h, _ => by simp at h
  | t :: ss, k, 0, s, q, h, o => by
    obtain ⟨q1, _⟩ := Bool.and_eq_true_iff.mp (show ((!t.own || lk.contains k) && lkOk lk (k + 1) ss) = true from q)
    simp at h
    subst h
    rw [o] at q1
    simpa using q1
  | t :: ss, k, i + 1, s, q, h, o => by
    obtain ⟨_, q2⟩ := Bool.and_eq_true_iff.mp (show ((!t.own || lk.contains k) && lkOk lk (k + 1) ss) = true from q)
    have := lkOk_at (i := i) q2 (by simpa using h) o
    rw [show k + (i + 1) = k + 1 + i from by omega]
    exact this
theorem outs_len : ∀ {ss : List S} {e o : En}, outs ss e = some o → o.length = ss.length
  | [], _, _, h => by cases h; rfl
  | s :: ss, [], _, h => by cases h
  | s :: ss, t :: r, o, h => by
    obtain ⟨u, _, h⟩ := Option.bind_eq_some_iff.mp h
    obtain ⟨q, h1, h2⟩ := Option.map_eq_some_iff.mp h
    rw [← h2, List.length_cons, List.length_cons, outs_len h1]
theorem outs_at : ∀ {ss : List S} {e o : En} {i : Nat} {s : S}, outs ss e = some o → ss[i]? = some s → (s.own = false ∧ o[i]? = some (some s)) ∨ (s.own = true ∧ ∃ xs, o[i]? = some (some (.lst xs)) ∧ e[i]? = some (some (.lst xs)))
  | [], _, _, _, _, _, h => by simp at h
  | s :: ss, [], _, _, _, h, _ => by cases h
  | s :: ss, t :: r, o, 0, z, h, q => by
    obtain ⟨u, h0, h⟩ := Option.bind_eq_some_iff.mp h
    obtain ⟨p, h1, h2⟩ := Option.map_eq_some_iff.mp h
    simp at q
    subst q h2
    cases hs : s.own with
    | false =>
      rw [hs] at h0
      cases h0
      exact .inl ⟨rfl, rfl⟩
    | true =>
      rw [hs, if_pos rfl] at h0
      split at h0
      · cases h0
        exact .inr ⟨rfl, _, rfl, rfl⟩
      · cases h0
  | s :: ss, t :: r, o, i + 1, z, h, q => by
    obtain ⟨u, h0, h⟩ := Option.bind_eq_some_iff.mp h
    obtain ⟨p, h1, h2⟩ := Option.map_eq_some_iff.mp h
    subst h2
    exact outs_at (i := i) h1 (by simpa using q)
theorem own_lst {s : S} (h : s.own = true) : ∃ xs, s = .lst xs := by
  cases s with
  | d x => cases h
  | lst xs => exact ⟨xs, rfl⟩
section
variable {W W' : List Addr} {K : PySem.W.Frag} {H H' : Hp} {σ' : St} {e' o : En} {vs : List V} {ss : List S} {n m : Nat} {lk : List Nat}
theorem get_map {α β : Type} {f : α → β} {l : List α} {i : Nat} {y : β} (h : (l.map f)[i]? = some y) : ∃ x, l[i]? = some x ∧ f x = y := by
  rw [List.getElem?_map] at h
  exact Option.map_eq_some_iff.mp h
theorem ext_at {α : Type} {l : List (Option α)} {k i : Nat} {x : α} (h : (l ++ List.replicate k none)[i]? = some (some x)) : l[i]? = some (some x) := by
  by_cases hi : i < l.length
  · rw [List.getElem?_append_left hi] at h
    exact h
  · rw [List.getElem?_append_right (by omega), List.getElem?_replicate] at h
    split at h <;> cases h
theorem ext_to {α : Type} {l : List (Option α)} {k i : Nat} {x : Option α} (h : l[i]? = some x) : (l ++ List.replicate k none)[i]? = some x := by
  rw [List.getElem?_append_left (List.getElem?_eq_some_iff.mp h).1]
  exact h
theorem Ow.ext {σ : St} {e : En} {k : Nat} {a : Addr} (o : Ow (σ ++ List.replicate k none) (e ++ List.replicate k none) a) : Ow σ e a := by
  obtain ⟨i, s, h1, h2, h3⟩ := o
  exact ⟨i, s, ext_at h1, h2, ext_at h3⟩
theorem SR.ext {σ : St} {e : En} (r : SR W K H σ e) (k : Nat) : SR W K H (σ ++ List.replicate k none) (e ++ List.replicate k none) where
  wm := r.wm
  len := by rw [List.length_append, List.length_append, r.len, List.length_replicate, List.length_replicate]
  sl := fun i s h => by
    obtain ⟨v, h1, h2⟩ := r.sl i s (ext_at h)
    exact ⟨v, ext_to h1, h2⟩
  one := fun i j s t a h1 h2 o1 o2 h3 h4 => r.one i j s t a (ext_at h1) (ext_at h2) o1 o2 (ext_at h3) (ext_at h4)
/-- behind the body: the parameters' frame -/
theorem outs_ok (r0 : SR W K H (vs.map some) (ss.map some)) (hk : lkOk lk 0 ss = true) (ho : outs ss e' = some o) (sr : SR W' K H' σ' e') (x : EX W H (vs.map some ++ List.replicate n none) (ss.map some ++ List.replicate n none) W' H' σ' e')
    (hl : ∀ i ∈ lk, σ'[i]? = (vs.map some ++ List.replicate n none)[i]?) :
    SR W' K H' (vs.map some) o ∧ EX W H (vs.map some) (ss.map some) W' H' (vs.map some) o ∧ (∀ a, Ow (vs.map some) o a → Ow σ' e' a) ∧ ∀ a, Ow (vs.map some ++ List.replicate n none) (ss.map some ++ List.replicate n none) a → Ow (vs.map some) o a := by
  have hlen : vs.length = ss.length := by have := r0.len; rw [List.length_map, List.length_map] at this; exact this.symm
  have at_ : ∀ {i : Nat} {t : S}, o[i]? = some (some t) → ∃ s v, ss[i]? = some s ∧ vs[i]? = some v ∧ ((s.own = false ∧ t = s) ∨ (s.own = true ∧ e'[i]? = some (some t) ∧ t.own = true ∧ σ'[i]? = some (some v))) := by
    intro i t h
    have hi : i < ss.length := by rw [← outs_len ho]; exact (List.getElem?_eq_some_iff.mp h).1
    obtain ⟨s, hs⟩ : ∃ s, ss[i]? = some s := ⟨ss[i], List.getElem?_eq_getElem hi⟩
    obtain ⟨v, hv⟩ : ∃ v, vs[i]? = some v := ⟨vs[i]'(by omega), List.getElem?_eq_getElem (by omega)⟩
    refine ⟨s, v, hs, hv, ?_⟩
    rcases outs_at ho hs with ⟨n1, h1⟩ | ⟨n1, xs, h1, h2⟩
    · rw [h] at h1
      cases h1
      exact .inl ⟨n1, rfl⟩
    · rw [h] at h1
      cases h1
      refine .inr ⟨n1, h2, rfl, ?_⟩
      have q := lkOk_at hk hs n1
      rw [Nat.zero_add] at q
      rw [hl i q, ext_to (by rw [List.getElem?_map, hv]; rfl)]
  have ow1 : ∀ a, Ow (vs.map some) o a → Ow σ' e' a := by
    rintro a ⟨i, t, h1, h2, h3⟩
    obtain ⟨s, v, hs, hv, q⟩ := at_ h1
    rw [List.getElem?_map, hv] at h3
    cases h3
    rcases q with ⟨n1, rfl⟩ | ⟨_, q1, _, q3⟩
    · rw [n1] at h2; cases h2
    · exact ⟨i, t, q1, h2, q3⟩
  have ow2 : ∀ a, Ow (vs.map some ++ List.replicate n none) (ss.map some ++ List.replicate n none) a → Ow (vs.map some) o a := by
    intro a z
    obtain ⟨i, s, h1, h2, h3⟩ := z.ext
    obtain ⟨s', hs, e1⟩ := get_map h1
    cases e1
    rcases outs_at ho hs with ⟨n1, _⟩ | ⟨_, xs, q1, q2⟩
    · rw [n1] at h2; cases h2
    · exact ⟨i, .lst xs, q1, rfl, h3⟩
  refine ⟨⟨sr.wm, by rw [outs_len ho, List.length_map, hlen], fun i t h => ?_, fun i j s t a h1 h2 o1 o2 h3 h4 => ?_⟩, ⟨fun a oo h nn => x.keep a oo h fun z => nn z.ext, x.frz, fun a h nn => ?_, fun a h => ?_, x.dom⟩, ow1, ow2⟩
  · obtain ⟨s, v, hs, hv, q⟩ := at_ h
    refine ⟨v, by rw [List.getElem?_map, hv]; rfl, ?_⟩
    rcases q with ⟨n1, rfl⟩ | ⟨_, q1, _, q3⟩
    · obtain ⟨v', h1, h2⟩ := r0.sl i t (by rw [List.getElem?_map, hs]; rfl)
      rw [List.getElem?_map, hv] at h1
      cases h1
      cases t with
      | d y => exact Rp.mono (x.ex (r0.ext n)) y h2
      | lst xs => cases n1
    · obtain ⟨v', h1, h2⟩ := sr.sl i t q1
      rw [q3] at h1
      cases h1
      exact h2
  · obtain ⟨s1, v1, _, hv1, q1⟩ := at_ h1
    obtain ⟨s2, v2, _, hv2, q2⟩ := at_ h2
    rw [List.getElem?_map, hv1] at h3
    rw [List.getElem?_map, hv2] at h4
    cases h3
    cases h4
    rcases q1 with ⟨n1, rfl⟩ | ⟨_, q1, _, q3⟩
    · rw [n1] at o1; cases o1
    · rcases q2 with ⟨n1, rfl⟩ | ⟨_, p1, _, p3⟩
      · rw [n1] at o2; cases o2
      · exact sr.one i j s t a q1 p1 o1 o2 q3 p3
  · obtain ⟨h1, h2⟩ := x.tmp a h fun z => nn z.ext
    exact ⟨h1, fun z => h2 (ow1 a z)⟩
  · rcases x.sub a (ow1 a h) with z | z
    · exact .inl z.ext
    · exact .inr z
end

/-! ## the promise of a def -/
structure Fd (P : Program) (w : World) (K : PySem.W.Frag) (mg : Str → Option Value) (base : Heap) (k : Nat) (f : Addr) (fd : FuncData) (ps : List Str) (F : List S → Out) : Prop where
  run : ∀ (A : Around) (outer : List Env) (s : Shared) (H : Hp) (args : Args) (us : List Value) (vs : List V) (ss : List S) (W : List Addr) (Q : VK) (E : XK), Room k A → A.guards = some [] → Env0 P w K mg base A outer s H → BindsTo s fd args (ps.zip us) → Vals vs us →
    vs.length = ps.length → SR W K H (vs.map some) (ss.map some) → OutK K mg (fun c d _ H' => E c d H') W H (vs.map some) (ss.map some) Q (F ss) → codeAny (model P w) A (.call (.ref f) args) (CR (CX P w) outer P w H s Q E) s
theorem Fd.mono {P : Program} {w : World} {K : PySem.W.Frag} {mg : Str → Option Value} {base : Heap} {k k' : Nat} {f : Addr} {fd : FuncData} {ps : List Str} {F : List S → Out} (h : Fd P w K mg base k f fd ps F) (hk : k ≤ k') : Fd P w K mg base k' f fd ps F :=
  ⟨fun A outer s H args us vs ss W Q E r => h.run A outer s H args us vs ss W Q E (r.mono hk)⟩
section
variable {P : Program} {w : World} {K : PySem.W.Frag} {mg : Str → Option Value} {base : Heap} {name qual : Str} {params : Arguments} {body : List Stmt} {scope : Scope} {dvs : List V} {kws : List (Str × V)} {f : Addr} {fd : FuncData}
/-- what the body's end is worth to the caller -/
theorem fin_ok {W : List Addr} {H : Hp} {vs : List V} {ss : List S} {n : Nat} {lk : List Nat} {Q : VK} {E : XK} (r0 : SR W K H (vs.map some) (ss.map some)) (hk : lkOk lk 0 ss = true) : ∀ {fl : Fl}, OutK K mg (fun c d _ H' => E c d H') W H (vs.map some) (ss.map some) Q (fin ss fl) →
    FlK K mg (fun c d _ H' => E c d H') lk W H (vs.map some ++ List.replicate n none) (ss.map some ++ List.replicate n none) { nx := fun _ H' => Q .non H', rt := Q } fl := by
  intro fl h
  cases fl with
  | stuck => exact h.elim
  | bk e => exact h.elim
  | ct e => exact h.elim
  | nx e =>
    intro W' H' σ' sr x hl
    have h : OutK K mg (fun c d _ H' => E c d H') W H (vs.map some) (ss.map some) Q (Out.back ss (.d .non) e) := h
    unfold Out.back at h
    cases ho : outs ss e with
    | none => rw [ho] at h; exact h.elim
    | some o =>
      rw [ho] at h
      obtain ⟨s1, x1, _, _⟩ := outs_ok r0 hk ho sr x hl
      exact h .non W' H' s1 x1 rfl fun z => nomatch z
  | rt s e =>
    intro v W' H' σ' sr x hl rv fr
    have h : OutK K mg (fun c d _ H' => E c d H') W H (vs.map some) (ss.map some) Q (Out.back ss s e) := h
    unfold Out.back at h
    cases ho : outs ss e with
    | none => rw [ho] at h; exact h.elim
    | some o =>
      rw [ho] at h
      obtain ⟨s1, x1, o1, o2⟩ := outs_ok r0 hk ho sr x hl
      refine h v W' H' s1 x1 rv fun so a ea => ?_
      obtain ⟨q1, q2⟩ := fr so a ea
      have q3 : ¬ Ow (vs.map some) o a := fun z => q1 (o1 a z)
      exact ⟨q2.elim (fun z => absurd (o2 a z) q3) id, q3⟩
  | ex y e =>
    intro c d W' H' σ' sr x hl rx
    have h : OutK K mg (fun c d _ H' => E c d H') W H (vs.map some) (ss.map some) Q (Out.backX ss y e) := h
    unfold Out.backX at h
    cases ho : outs ss e with
    | none => rw [ho] at h; exact h.elim
    | some o =>
      rw [ho] at h
      obtain ⟨s1, x1, _, _⟩ := outs_ok r0 hk ho sr x hl
      exact h c d W' H' s1 x1 rx
theorem fd_of {N ps : List Str} {k : Nat} {lk : List Nat} {fb : FS} (FD : FunD K name qual params body scope dvs kws f fd) (SC : FnScope N ps scope)
    (hb : ∀ (cdv : Value) (A : Around) (outer : List Env) (s : Shared) (H : Hp) (E : XK), Room k (A.deeper (envOfC qual scope s.heap.objs.size f cdv)) → A.guards = some [] →
      SDs (cxOf (CX P w) P w K mg base N qual scope f cdv A outer s H E) (fun c d _ H' => E c d H') lk body fb) : Fd P w K mg base (k + 1) f fd ps (fnF N.length lk fb) := by
  obtain ⟨oc, od, dV, kV, doc, pm, an, cdv, ct, osl, e, look, code, _, _⟩ := FD.ex
  refine ⟨fun A outer s H args us vs ss W Q E room gd env bind rel hlen r0 out => ?_⟩
  subst e
  have inK : K.In s.heap := env.mod.kin.keeps fun b o q => (env.bs b o q).1
  have noL : s.heap.NoLimit := env.mod.nolimit.keeps fun b o q => (env.bs b o q).1
  have kinds : ∀ y ∈ ps.zip us, scope.names.lookup y.1 = some .local ∨ (scope.names.lookup y.1 = some .cell ∧ ((cellsFrom (s.heap.objs.size + 1) scope.names []).lookup y.1).isSome = true) := by
    intro y hy
    cases SC.par y.1 (List.of_mem_zip hy).1 with
    | inl q => exact .inl q
    | inr q => exact .inr ⟨q, PySem.W.cellsFrom_some _ _ _ (.inl q)⟩
  unfold fnF at out
  split at out
  rotate_left
  · exact out.elim
  rename_i hlk
  refine codeAny_call_function (by have := room.dp; omega) (inK _ _ look) rfl SC.co SC.gen rfl (PySem.W.codeRec_of inK code) (bind _ _ _ _ ?_)
  refine wpAny_newFunctionEnv_cells SC.kind kinds fun env1 he s1 ic => ?_
  subst he
  refine ⟨noL.keeps ic.toInCall.keep, codeAny_func ?_⟩
  have B := hb cdv A outer s H E (room.deeper _) gd
  have hss : ss.length = vs.length := by have := r0.len; rw [List.length_map, List.length_map] at this; exact this
  have I0 : Inv (cxOf (CX P w) P w K mg base N qual scope f cdv A outer s H E) [] (L2.start N vs) H s1 := inv_start SC room.hd env hlen rel ic
  have pre : tS K mg (fun c d _ H' => E c d H') lk fb { nx := fun _ H' => Q .non H', rt := Q } (L2.start N vs) H := by
    refine ⟨W, enter N.length ss, ?_, ?_⟩
    · unfold L2.start enter
      rw [hss]
      exact r0.ext _
    · have := fin_ok (n := N.length - ss.length) r0 hlk out
      unfold L2.start
      rw [← hss]
      exact this
  refine wpAny_mono (B.ps.run [] s1 (L2.start N vs) H _ I0 pre) (fun fl s2 end_ => ?_) fun e s2 z => z
  cases fl with
  | next =>
    obtain ⟨σ2, H2, J, q⟩ := end_
    exact ⟨.non, H2, J.os, J.bare, J.base, J.hok, rfl, q⟩
  | ret u =>
    obtain ⟨v, σ2, H2, J, rv, q⟩ := end_
    exact ⟨v, H2, J.os, J.bare, J.base, J.hok, rv, q⟩
  | brk => exact end_.elim fun _ z => z.elim fun _ z => z.2.elim
  | cont => exact end_.elim fun _ z => z.elim fun _ z => z.2.elim
end
end DL

set_option maxHeartbeats 2000000
namespace DL
open PySem PySem.Spec PyProof.Rows L2

/-! ## calls of the text's defs -/
/-- a def that may be called by its name; F its mirror -/
structure Cal (P : Program) (w : World) (K : PySem.W.Frag) (mg : Str → Option Value) (base : Heap) (k : Nat) (d : He.DefD) (ps : List Str) (F : List S → Out) : Prop where
  ex : ∃ (f : Addr) (fd : FuncData), mg d.name = some (.ref f) ∧ PySem.W.keepIn K (.ref f) = true ∧ Fd P w K mg base k f fd ps F ∧ (∃ kV doc pm an cdv ct, fd = PySem.W.fnOf d.name d.qual d.params d.body d.scope .none kV doc pm an cdv ct) ∧ ∃ oc od osl, K.lookup f = some ⟨oc, od, .func fd, osl⟩
theorem Cal.mono {P : Program} {w : World} {K : PySem.W.Frag} {mg : Str → Option Value} {base : Heap} {k k' : Nat} {d : He.DefD} {ps : List Str} {F : List S → Out} (h : Cal P w K mg base k d ps F) (hk : k ≤ k') : Cal P w K mg base k' d ps F :=
  let ⟨f, fd, a, b, c, e⟩ := h.ex; ⟨⟨f, fd, a, b, c.mono hk, e⟩⟩
/-- how n positional values and keywords named ks come to the parameters -/
def BindsA (d : He.DefD) (ps : List Str) : Prop := ∀ (kV doc pm : Value) (an : Option Addr) (cdv ct : Value) (us : List Value), us.length = ps.length →
  bindArgs (PySem.W.fnOf d.name d.qual d.params d.body d.scope .none kV doc pm an cdv ct) ⟨us, []⟩ = pure (ps.zip us)
def BindsK (d : He.DefD) (ps ks : List Str) (g : {α : Type} → List α → List α → List α) : Prop := ∀ (kV doc pm : Value) (an : Option Addr) (cdv ct : Value) (us ws : List Value), (g us ws).length = ps.length →
  bindArgs (PySem.W.fnOf d.name d.qual d.params d.body d.scope .none kV doc pm an cdv ct) ⟨us, ks.zip ws⟩ = pure (ps.zip (g us ws))
/-- the promise at a call: E: what an exception must meet -/
def spF (K : PySem.W.Frag) (mg : Str → Option Value) (n : Nat) (F : List S → Out) (E : XK) (vs : List V) (H : Hp) (Q : VK) : Prop :=
  vs.length = n ∧ ∃ (W : List Addr) (ss : List S), SR W K H (vs.map some) (ss.map some) ∧ OutK K mg (fun c d _ H' => E c d H') W H (vs.map some) (ss.map some) Q (F ss)
section
variable {X : Cx} {Wx : WX} {k : Nat} {d : He.DefD} {ps ks : List Str} {F : List S → Out} {x : Str} {p pos : Pos} {a : Expr} {es : List Expr} {t tk : TA} {kws : List Keyword}
theorem run_fd {f : Addr} {fd : FuncData} {pins : List (Addr × Obj)} {σ : St} {H : Hp} {s : Shared} {Q : VK} {us : List Value} {vs : List V} {pq : List Value} {kq : List (Str × Value)} (FF : Fd X.prog X.w X.K X.mg X.base k f fd ps F) (hr : Room k X.A) (hgd : X.A.guards = some []) (tk : Takes X Wx)
    (hb : BindsTo s fd ⟨pq, kq⟩ (ps.zip us)) (I : Inv X pins σ H s) (r : Vals vs us) (h : spF X.K X.mg ps.length F (fun c d H' => Wx c d σ H') vs H Q) : wpAny (model X.prog X.w) X.A (call (.ref f) pq kq) (EP X pins σ Q) X.xe s := by
  obtain ⟨hl, W, ss, sr, out⟩ := h
  refine wpAny_call (codeAny_mono (FF.run X.A X.stack s H ⟨pq, kq⟩ us vs ss W Q (fun c d H' => Wx c d σ H') hr hgd I.env0 hb r hl sr out) fun rs s' hq => ?_)
  cases rs with
  | error e => exact tk e s' (XE.of_call I (fun cls d H' z => z) hq)
  | ok fl =>
    cases fl with
    | ret u => exact I.after hq
    | next => exact False.elim hq
    | brk => exact False.elim hq
    | cont => exact False.elim hq
def tFd (K : PySem.W.Frag) (mg : Str → Option Value) (n : Nat) (F : List S → Out) (Wx : WX) (t : TA) : TE := fun σ H Q => t σ H fun vs H1 => spF K mg n F (fun c d H' => Wx c d σ H') vs H1 Q
theorem pe_fd (c : Cal X.prog X.w X.K X.mg X.base k d ps F) (hx : d.name = x) (hb : BindsA d ps) (hr : Room k X.A) (hgd : X.A.guards = some []) (tk : Takes X Wx) (ha : PA X (a :: es) t) (hg : Gl X x)
    (hdb : (x == ("__debug__" : Str)) = false := by decide) (he : starEach (a :: es) X.env = (false, eval a X.env) :: starEach es X.env := by rfl) (hpl : (backTo pos (starEach es X.env)).any (·.1) = false := by rfl) :
    PE X (.Call (.Name x p) (a :: es) [] pos) (tFd X.K X.mg ps.length F Wx t) := by
  obtain ⟨f, fd, hm, hk, FF, ⟨kV, doc, pm, an, cdv, ct, efd⟩, _⟩ := c.ex
  rw [hx] at hm
  refine ⟨fun pins s σ H Q I h => wpAny_Call_Name_kw (ld_glob I hg hm ?_ hdb)⟩
  refine PySem.W.callWith_K (h₀ := X.base) I.ok.mod.kin hk (thn (ha.run pos pins s σ H _ I h) fun us s1 ⟨vs, H1, I1, r, q⟩ => ⟨I1.kIn, ?_⟩) he hpl
  have hl : us.length = ps.length := by rw [← r.length]; exact q.1
  exact run_fd FF hr hgd tk (.of_eq (by rw [efd]; exact hb kV doc pm an cdv ct us hl)) I1 r q
theorem pe_fd0 (c : Cal X.prog X.w X.K X.mg X.base k d ps F) (hx : d.name = x) (hb : BindsA d ps) (hr : Room k X.A) (hgd : X.A.guards = some []) (tk : Takes X Wx) (hg : Gl X x)
    (hdb : (x == ("__debug__" : Str)) = false := by decide) : PE X (.Call (.Name x p) [] [] pos) (tFd X.K X.mg ps.length F Wx tNil) := by
  obtain ⟨f, fd, hm, hk, FF, ⟨kV, doc, pm, an, cdv, ct, efd⟩, _⟩ := c.ex
  rw [hx] at hm
  refine ⟨fun pins s σ H Q I h => wpAny_Call_Name_kw (ld_glob I hg hm ?_ hdb)⟩
  have q : spF X.K X.mg ps.length F (fun c d H' => Wx c d σ H') [] H Q := h
  exact PySem.W.callWith_K0 I.kIn hk (run_fd (us := []) FF hr hgd tk (.of_eq (by rw [efd]; exact hb kV doc pm an cdv ct [] q.1)) I .nil q)
/-- only keywords -/
def tFdK (K : PySem.W.Frag) (mg : Str → Option Value) (n : Nat) (F : List S → Out) (Wx : WX) (g : {α : Type} → List α → List α → List α) (t tk : TA) : TE := fun σ H Q => t σ H fun vs H1 => tk σ H1 fun zs H2 => spF K mg n F (fun c d H' => Wx c d σ H') (g vs zs) H2 Q
structure GVals (g : {α : Type} → List α → List α → List α) : Prop where
  rel : ∀ {vs : List V} {us : List Value} {zs : List V} {ws : List Value}, Vals vs us → Vals zs ws → Vals (g vs zs) (g us ws)
theorem pe_fdK0 {g : {α : Type} → List α → List α → List α} (c : Cal X.prog X.w X.K X.mg X.base k d ps F) (hx : d.name = x) (hb : BindsK d ps ks g) (gv : GVals g) (hr : Room k X.A) (hgd : X.A.guards = some []) (tk : Takes X Wx) {tw : TA} (hw : PK X kws tw) (hg : Gl X x)
    (hall : (backToKw pos (keywordEach kws X.env)).all (·.1.isSome) = true := by rfl) (hks : (backToKw pos (keywordEach kws X.env)).filterMap (·.1) = ks := by rfl)
    (hdb : (x == ("__debug__" : Str)) = false := by decide) (hpl : ((backTo pos (starEach [] X.env)).any (·.1) || (backToKw pos (keywordEach kws X.env)).any (·.1.isNone)) = false := by rfl) :
    PE X (.Call (.Name x p) [] kws pos) (tFdK X.K X.mg ps.length F Wx g tNil tw) := by
  obtain ⟨f, fd, hm, hk, FF, ⟨kV, doc, pm, an, cdv, ct, efd⟩, _⟩ := c.ex
  rw [hx] at hm
  refine ⟨fun pins s σ H Q I h => wpAny_Call_Name_kw (ld_glob I hg hm ?_ hdb)⟩
  have h : tw σ H fun zs H2 => spF X.K X.mg ps.length F (fun c d H' => Wx c d σ H') (g [] zs) H2 Q := h
  refine PySem.W.callWith_KW0 (h₀ := X.base) I.ok.mod.kin hk hall (thn (hw.run pos pins s σ H _ I h) fun ws s2 ⟨zs, H2, I2, rz, q⟩ => ⟨I2.kIn, ?_⟩) hpl
  rw [hks]
  have r2 := gv.rel (vs := []) (us := []) .nil rz
  exact run_fd FF hr hgd tk (.of_eq (by rw [efd]; exact hb kV doc pm an cdv ct [] ws (by rw [← r2.length]; exact q.1))) I2 r2 q
theorem pe_fdK {g : {α : Type} → List α → List α → List α} (c : Cal X.prog X.w X.K X.mg X.base k d ps F) (hx : d.name = x) (hb : BindsK d ps ks g) (gv : GVals g) (hr : Room k X.A) (hgd : X.A.guards = some []) (tk : Takes X Wx) (ha : PA X (a :: es) t) {tw : TA} (hw : PK X kws tw) (hg : Gl X x)
    (hall : (backToKw pos (keywordEach kws X.env)).all (·.1.isSome) = true := by rfl) (hks : (backToKw pos (keywordEach kws X.env)).filterMap (·.1) = ks := by rfl)
    (hdb : (x == ("__debug__" : Str)) = false := by decide) (he : starEach (a :: es) X.env = (false, eval a X.env) :: starEach es X.env := by rfl)
    (hpl : ((backTo pos (starEach (a :: es) X.env)).any (·.1) || (backToKw pos (keywordEach kws X.env)).any (·.1.isNone)) = false := by rfl) :
    PE X (.Call (.Name x p) (a :: es) kws pos) (tFdK X.K X.mg ps.length F Wx g t tw) := by
  obtain ⟨f, fd, hm, hk, FF, ⟨kV, doc, pm, an, cdv, ct, efd⟩, _⟩ := c.ex
  rw [hx] at hm
  refine ⟨fun pins s σ H Q I h => wpAny_Call_Name_kw (ld_glob I hg hm ?_ hdb)⟩
  refine PySem.W.callWith_KW (h₀ := X.base) I.ok.mod.kin hk hall (thn (ha.run pos pins s σ H _ I h) fun us s1 ⟨vs, H1, I1, r, q⟩ => ?_) hpl he
  refine thn (hw.run pos pins s1 σ H1 _ I1 q) fun ws s2 ⟨zs, H2, I2, rz, q⟩ => ⟨I2.kIn, ?_⟩
  rw [hks]
  have r2 := gv.rel r rz
  exact run_fd FF hr hgd tk (.of_eq (by rw [efd]; exact hb kV doc pm an cdv ct us ws (by rw [← r2.length]; exact q.1))) I2 r2 q
theorem takes_no : Takes X (fun _ _ _ _ => False) := fun u s' ⟨_, _, _, _, _, _, _, _, _, _, _, _, _, _, _, _, z⟩ => z.elim
end

/-! ### calls that change nothing and let nothing out -/
mutual
def D.flat : D → Bool
  | .non => true
  | .bl _ => true
  | .int _ => true
  | .str _ => true
  | .tup xs => flatL xs
  | .lst _ => false
  | .ro xs => flatL xs
  | .dic _ _ => false
def flatL : List D → Bool
  | [] => true
  | d :: ds => d.flat && flatL ds
end
mutual
theorem Rp.flat {W W' : List Addr} {K : PySem.W.Frag} {H : Hp} : ∀ (x : D) {v : V}, x.flat = true → Rp W K H x v → Rp W' K H x v
  | .non, _, _, h => h
  | .bl _, _, _, h => h
  | .int _, _, _, h => h
  | .str _, _, _, h => h
  | .tup xs, _, o, ⟨a, vs, e, h1, h2⟩ => ⟨a, vs, e, h1, RpL.flat xs o h2⟩
  | .ro xs, _, o, ⟨a, vs, e, h1, h2⟩ => ⟨a, vs, e, h1, RpL.flat xs o h2⟩
theorem RpL.flat {W W' : List Addr} {K : PySem.W.Frag} {H : Hp} : ∀ (xs : List D) {vs : List V}, flatL xs = true → RpL W K H xs vs → RpL W' K H xs vs
  | [], _, _, h => h
  | d :: ds, _, o, ⟨v, us, e, h1, h2⟩ => by
    obtain ⟨o1, o2⟩ := Bool.and_eq_true_iff.mp (show (d.flat && flatL ds) = true from o)
    exact ⟨v, us, e, Rp.flat d o1 h1, RpL.flat ds o2 h2⟩
end
@[simp] def RV.lent : RV → Bool
  | .ow _ => true
  | _ => false
def S.flat : S → Bool
  | .d x => x.flat
  | .lst xs => flatL xs
@[simp] def S.rv : S → RV
  | .d x => .fz x
  | .lst xs => .fr xs
@[simp] def callP (F : List S → Out) (rs : List RV) : Option RV := match F (rs.map fun r => .d r.view) with
  | .ok s _ => if (rs.all fun r => !r.lent) = true ∨ s.flat = true then some s.rv else none
  | _ => none
@[simp] def pFd (F : List S → Out) (fs : FA) : FP := fun e => (fs e).bind (callP F)
/-- the lists among the arguments that the caller holds -/
def held : List RV → List V → List Addr
  | r :: rs, v :: vs => (match r, v with
    | .fz _, _ => held rs vs
    | _, .ref a => a :: held rs vs
    | _, _ => held rs vs)
  | _, _ => []
section
variable {W W1 W0 : List Addr} {K : PySem.W.Frag} {mg : Str → Option Value} {H H1 : Hp} {F : List S → Out}
theorem held_in : ∀ {rs : List RV} {vs : List V}, RVs W1 K H H1 rs vs → (rs.all fun r => !r.lent) = true → ∀ a ∈ held rs vs, H a = none
  | [], vs, _, _, a, ha => by
    unfold held at ha
    cases ha
  | r :: rs, _, ⟨v, us, e, h1, h2⟩, hl, a, ha => by
    subst e
    obtain ⟨l1, l2⟩ := Bool.and_eq_true_iff.mp (show ((!r.lent) && rs.all fun r => !r.lent) = true from hl)
    cases r with
    | fz x => exact held_in h2 l2 a ha
    | ow xs => cases l1
    | fr xs =>
      obtain ⟨b, ws, rfl, n, _⟩ := h1
      rcases List.mem_cons.mp (show a ∈ b :: held rs us from ha) with rfl | ha
      · exact n
      · exact held_in h2 l2 a ha
theorem frozen_args {W0 : List Addr} (sb : ∀ a ∈ W0, a ∈ W1) (wm : WM W1 H1) : ∀ {rs : List RV} {vs : List V}, RVs W1 K H H1 rs vs → (∀ a ∈ held rs vs, a ∉ W0) → RpL W0 K H1 (rs.map RV.view) vs
  | [], _, h, _ => h
  | r :: rs, _, ⟨v, us, e, h1, h2⟩, hn => by
    subst e
    cases r with
    | fz x => exact ⟨v, us, rfl, Rp.weak sb (fun a h => wm a (sb a h)) h1 wm, frozen_args sb wm h2 hn⟩
    | fr xs =>
      obtain ⟨b, ws, rfl, n, m, hb, q⟩ := h1
      exact ⟨_, us, rfl, ⟨b, ws, rfl, ⟨hb, hn b List.mem_cons_self⟩, RpL.weak sb wm q⟩, frozen_args sb wm h2 fun a ha => hn a (List.mem_cons_of_mem _ ha)⟩
    | ow xs =>
      obtain ⟨b, ws, rfl, m, hb, q⟩ := h1
      exact ⟨_, us, rfl, ⟨b, ws, rfl, ⟨hb, hn b List.mem_cons_self⟩, RpL.weak sb wm q⟩, frozen_args sb wm h2 fun a ha => hn a (List.mem_cons_of_mem _ ha)⟩
theorem no_own {σ : St} {ds : List D} {a : Addr} : ¬ Ow σ ((ds.map S.d).map some) a := by
  rintro ⟨i, s, h1, h2, _⟩
  obtain ⟨t, h3, e⟩ := get_map h1
  cases e
  obtain ⟨x, _, e⟩ := get_map h3
  rw [← e] at h2
  cases h2
theorem frame_of (wm : WM W H) {ds : List D} {vs : List V} (r : RpL W K H ds vs) : SR W K H (vs.map some) ((ds.map S.d).map some) where
  wm := wm
  len := by rw [List.length_map, List.length_map, List.length_map, r.length]
  sl := fun i s h => by
    obtain ⟨t, h3, e⟩ := get_map h
    cases e
    obtain ⟨x, h4, e⟩ := get_map h3
    subst e
    obtain ⟨v, h5, q⟩ := r.get h4
    exact ⟨v, by rw [List.getElem?_map, h5]; rfl, q⟩
  one := fun i j s t a h1 _ o1 _ h3 _ => absurd ⟨i, s, h1, o1, h3⟩ no_own
theorem callP_ok {rs : List RV} {vs : List V} {r : RV} {Q : VK} {n : Nat} {E : XK} (wm : WM W H) (g1 : Grow W H W1 H1) (k1 : RVs W1 K H H1 rs vs) (hf : callP F rs = some r) (k : KQ W K H r Q) (hn : vs.length = n) : spF K mg n F E vs H1 Q := by
  refine ⟨hn, W1.filter (fun a => decide (a ∉ held rs vs)), (rs.map RV.view).map S.d, ?_⟩
  have sb : ∀ a ∈ W1.filter (fun a => decide (a ∉ held rs vs)), a ∈ W1 := fun a h => (List.mem_filter.mp h).1
  have nh : ∀ a ∈ held rs vs, a ∉ W1.filter (fun a => decide (a ∉ held rs vs)) := fun a h z => by
    have := (List.mem_filter.mp z).2
    simp at this
    exact this h
  have fa := frozen_args sb g1.wm k1 nh
  have wm0 : WM (W1.filter fun a => decide (a ∉ held rs vs)) H1 := fun a h => g1.wm a (sb a h)
  refine ⟨frame_of wm0 fa, ?_⟩
  have em : (rs.map fun r => S.d r.view) = (rs.map RV.view).map S.d := by rw [List.map_map]; rfl
  unfold callP at hf
  rw [em] at hf
  generalize F ((rs.map RV.view).map S.d) = o at hf ⊢
  cases o with
  | stuck => cases hf
  | ex x e => cases hf
  | ok s e' =>
    have hf : (if (rs.all fun r => !r.lent) = true ∨ s.flat = true then some s.rv else none) = some r := hf
    split at hf
    rotate_left
    · cases hf
    rename_i hc
    cases hf
    intro v W' H' sr' x rs' fr'
    have kp : ∀ a o, H a = some o → H' a = some o := fun a o h => x.keep a o (g1.keep a o h) no_own
    have sub : (rs.all fun r => !r.lent) = true → ∀ a ∈ W, a ∈ W' := fun hl a ha => by
      refine (x.tmp a (List.mem_filter.mpr ⟨g1.sub a ha, ?_⟩) no_own).1
      simp
      exact fun z => isSome_of_mut (wm a ha) (held_in k1 hl a z)
    have g : Grow W H W H' := .of wm kp
    cases s with
    | d y =>
      refine k v W H' g ?_
      show Rp W K H' y v
      rcases hc with hl | hfl
      · exact Rp.weak (sub hl) g.wm rs' sr'.wm
      · exact Rp.flat y hfl rs'
    | lst xs =>
      obtain ⟨a, us, rfl, q1, q2, q3⟩ := rs'
      have na := g1.fresh (fr' rfl a rfl).1
      have g2 : Grow W H (a :: W) H' := ⟨kp, fun b h => List.mem_cons_of_mem _ h, fun b h => by
        rcases List.mem_cons.mp h with rfl | h
        · exact .inr na
        · exact .inl h, fun b h => by
        rcases List.mem_cons.mp h with rfl | h
        · rw [q2]; trivial
        · exact g.wm b h⟩
      refine k _ (a :: W) H' g2 ⟨a, us, rfl, na, List.mem_cons_self, q2, ?_⟩
      rcases hc with hl | hfl
      · refine RpL.weak (fun b h => ?_) sr'.wm q3
        rcases List.mem_cons.mp h with rfl | h
        · exact q1
        · exact sub hl b h
      · exact RpL.flat xs hfl q3
end
section
variable {X : Cx} {k : Nat} {d : He.DefD} {ps ks : List Str} {F : List S → Out} {x : Str} {p pos : Pos} {a : Expr} {es : List Expr} {fs fk : FA} {kws : List Keyword}
theorem RVs.len {W : List Addr} {K : PySem.W.Frag} {H H' : Hp} : ∀ {rs : List RV} {vs : List V}, RVs W K H H' rs vs → rs.length = vs.length
  | [], vs, h => by cases (show vs = [] from h); rfl
  | r :: rs, _, ⟨v, us, e, _, h⟩ => by subst e; rw [List.length_cons, List.length_cons, RVs.len h]
theorem pp_fd (c : Cal X.prog X.w X.K X.mg X.base k d ps F) (hx : d.name = x) (hb : BindsA d ps) (hr : Room k X.A) (hgd : X.A.guards = some []) (ha : PPs X (a :: es) fs) (hlen : (a :: es).length = ps.length := by rfl) (hg : Gl X x := by rfl)
    (hdb : (x == ("__debug__" : Str)) = false := by decide) (he : starEach (a :: es) X.env = (false, eval a X.env) :: starEach es X.env := by rfl) (hpl : (backTo pos (starEach es X.env)).any (·.1) = false := by rfl)
    (hfl : ∀ e rs, fs e = some rs → rs.length = ps.length) : PP X (.Call (.Name x p) (a :: es) [] pos) (pFd F fs) := by
  obtain ⟨t, pa, ka⟩ := ha.run
  refine PP.of ⟨_, pe_fd c hx hb hr hgd takes_no pa hg hdb he hpl, fun W H σ e Q r sr hf kq => ?_⟩
  obtain ⟨rs, e1, hf⟩ := Option.bind_eq_some_iff.mp hf
  exact ka W H σ e _ rs sr e1 fun vs W1 H1 g1 k1 => callP_ok sr.wm g1 k1 hf kq (by rw [← k1.len]; exact hfl e rs e1)
theorem pp_fd0 (c : Cal X.prog X.w X.K X.mg X.base k d [] F) (hx : d.name = x) (hb : BindsA d []) (hr : Room k X.A) (hgd : X.A.guards = some []) (hg : Gl X x := by rfl)
    (hdb : (x == ("__debug__" : Str)) = false := by decide) : PP X (.Call (.Name x p) [] [] pos) (pFd F aNil) := by
  refine PP.of ⟨_, pe_fd0 c hx hb hr hgd takes_no hg hdb, fun W H σ e Q r sr hf kq => ?_⟩
  exact callP_ok sr.wm (.refl sr.wm) (rs := []) (vs := []) rfl hf kq rfl
theorem aNil_len : ∀ e rs, aNil e = some rs → rs.length = 0 := fun e rs h => by cases h; rfl
theorem aCons_len {fa : FP} {fs : FA} {n : Nat} (h : ∀ e rs, fs e = some rs → rs.length = n) : ∀ e rs, aCons fa fs e = some rs → rs.length = n + 1 := fun e rs q => by
  obtain ⟨r, _, q⟩ := Option.bind_eq_some_iff.mp q
  obtain ⟨z, e1, q⟩ := Option.map_eq_some_iff.mp q
  subst q
  rw [List.length_cons, h e z e1]
/-- keywords -/
structure PKs (X : Cx) (kws : List Keyword) (f : FA) : Prop where
  pk : PK X kws (tA X.K f)
theorem kk_nil : PKs X [] aNil := ⟨⟨fun pos pins s σ H Q I ⟨W, e, rs, sr, hf, k⟩ => by cases hf; exact pk_nil.run pos pins s σ H Q I (k [] W H (.refl sr.wm) rfl)⟩⟩
theorem kk_cons {nm : Option Str} {v : Expr} {kpos : Pos} {fa : FP} (ha : PP X v fa) (hr : PKs X kws fk) : PKs X (⟨nm, v, kpos⟩ :: kws) (aCons fa fk) := by
  obtain ⟨t, p, ka⟩ := ha.run
  refine ⟨⟨fun pos pins s σ H Q I ⟨W, e, rs, sr, hf, k⟩ => (pk_cons p hr.pk).run pos pins s σ H Q I ?_⟩⟩
  obtain ⟨r1, e1, hf⟩ := Option.bind_eq_some_iff.mp hf
  obtain ⟨r2, e2, hf⟩ := Option.map_eq_some_iff.mp hf
  subst hf
  exact ka W H σ e _ r1 sr e1 fun v W1 H1 g1 k1 => ⟨W1, e, r2, g1.sr sr, e2, fun vs W' H' g2 k2 => k _ W' H' (g1.trans g2) ⟨v, vs, rfl, k1.grow g2 g1.wm, k2.back fun a h => g1.fresh h⟩⟩
structure GRel (g : {α : Type} → List α → List α → List α) : Prop where
  rv : ∀ {W : List Addr} {K : PySem.W.Frag} {H H' : Hp} {rs qs : List RV} {vs zs : List V}, RVs W K H H' rs vs → RVs W K H H' qs zs → RVs W K H H' (g rs qs) (g vs zs)
@[simp] def pFdK (F : List S → Out) (g : {α : Type} → List α → List α → List α) (n : Nat) (fs fk : FA) : FP := fun e => (fs e).bind fun rs => (fk e).bind fun qs => if (g rs qs).length = n then callP F (g rs qs) else none
theorem pp_fdK0 {g : {α : Type} → List α → List α → List α} (c : Cal X.prog X.w X.K X.mg X.base k d ps F) (hx : d.name = x) (hb : BindsK d ps ks g) (gv : GVals g) (gr : GRel g) (hr : Room k X.A) (hgd : X.A.guards = some []) (hw : PKs X kws fk) (hg : Gl X x := by rfl)
    (hall : (backToKw pos (keywordEach kws X.env)).all (·.1.isSome) = true := by rfl) (hks : (backToKw pos (keywordEach kws X.env)).filterMap (·.1) = ks := by rfl)
    (hdb : (x == ("__debug__" : Str)) = false := by decide) (hpl : ((backTo pos (starEach [] X.env)).any (·.1) || (backToKw pos (keywordEach kws X.env)).any (·.1.isNone)) = false := by rfl) :
    PP X (.Call (.Name x p) [] kws pos) (pFdK F g ps.length aNil fk) := by
  refine PP.of ⟨_, pe_fdK0 c hx hb gv hr hgd takes_no hw.pk hg hall hks hdb hpl, fun W H σ e Q r sr hf kq => ?_⟩
  obtain ⟨rs, e1, hf⟩ := Option.bind_eq_some_iff.mp hf
  cases e1
  obtain ⟨qs, e2, hf⟩ := Option.bind_eq_some_iff.mp hf
  split at hf
  rotate_left
  · cases hf
  rename_i hl
  show tA X.K fk σ H _
  refine ⟨W, e, qs, sr, e2, fun zs W1 H1 g1 k1 => ?_⟩
  have k2 := gr.rv (rs := []) (vs := []) (W := W1) (K := X.K) (H := H) (H' := H1) rfl k1
  exact callP_ok sr.wm g1 k2 hf kq (by rw [← k2.len]; exact hl)
theorem pp_fdK {g : {α : Type} → List α → List α → List α} (c : Cal X.prog X.w X.K X.mg X.base k d ps F) (hx : d.name = x) (hb : BindsK d ps ks g) (gv : GVals g) (gr : GRel g) (hr : Room k X.A) (hgd : X.A.guards = some []) (ha : PPs X (a :: es) fs) (hw : PKs X kws fk) (hg : Gl X x := by rfl)
    (hall : (backToKw pos (keywordEach kws X.env)).all (·.1.isSome) = true := by rfl) (hks : (backToKw pos (keywordEach kws X.env)).filterMap (·.1) = ks := by rfl)
    (hdb : (x == ("__debug__" : Str)) = false := by decide) (he : starEach (a :: es) X.env = (false, eval a X.env) :: starEach es X.env := by rfl)
    (hpl : ((backTo pos (starEach (a :: es) X.env)).any (·.1) || (backToKw pos (keywordEach kws X.env)).any (·.1.isNone)) = false := by rfl) :
    PP X (.Call (.Name x p) (a :: es) kws pos) (pFdK F g ps.length fs fk) := by
  obtain ⟨t, pa, ka⟩ := ha.run
  refine PP.of ⟨_, pe_fdK c hx hb gv hr hgd takes_no pa hw.pk hg hall hks hdb he hpl, fun W H σ e Q r sr hf kq => ?_⟩
  obtain ⟨rs, e1, hf⟩ := Option.bind_eq_some_iff.mp hf
  obtain ⟨qs, e2, hf⟩ := Option.bind_eq_some_iff.mp hf
  split at hf
  rotate_left
  · cases hf
  rename_i hl
  refine ka W H σ e _ rs sr e1 fun vs W1 H1 g1 k1 => ?_
  show tA X.K fk σ H1 _
  refine ⟨W1, e, qs, g1.sr sr, e2, fun zs W2 H2 g2 k2 => ?_⟩
  have k3 := gr.rv (k1.grow g2 g1.wm) (k2.back fun a h => g1.fresh h)
  exact callP_ok sr.wm (g1.trans g2) k3 hf kq (by rw [← k3.len]; exact hl)
end
end DL

set_option maxHeartbeats 2000000
namespace DL
open PySem PySem.Spec PyProof.Rows L2

/-! ## calls that may change what the caller lends, or let an exception out -/
/-- an argument: frozen; the list of slot i, lent; a new list, given away -/
inductive AR where
  | fz (x : D) | bw (i : Nat) | ow (xs : List D)
inductive OA where
  | stuck | ok (as : List AR) (e : En) | ex (x : XD) (e : En)
@[simp] def OA.cons (a : AR) : OA → OA
  | .stuck => .stuck
  | .ok as e => .ok (a :: as) e
  | .ex x e => .ex x e
@[simp] def argS : List AR → En → Option (List S)
  | [], _ => some []
  | a :: as, e => (match a with
    | .fz x => some (S.d x)
    | .bw i => (match e[i]? with
      | some (some (.lst xs)) => some (S.lst xs)
      | _ => none)
    | .ow xs => some (S.lst xs)).bind fun s => (argS as e).map fun ss => s :: ss
@[simp] def bws : List AR → List Nat
  | [] => []
  | .bw i :: as => i :: bws as
  | _ :: as => bws as
@[simp] def ows : List AR → Nat
  | [] => 0
  | .ow _ :: as => ows as + 1
  | _ :: as => ows as
@[simp] def arOk (as : List AR) : Bool := decide ((bws as).Nodup) && decide (ows as ≤ 1)
@[simp] def putAt (i : Nat) (t : Option S) (e : En) : Option En := match t with
  | some (.lst xs) => some (e.set i (some (.lst xs)))
  | _ => none
@[simp] def putb : List AR → En → En → Option En
  | [], _, e => some e
  | a :: as, o, e => match o with
    | [] => none
    | t :: r => match a with
      | .bw i => (putAt i t e).bind (putb as r)
      | _ => putb as r e
theorem putAt_ok {i : Nat} {t : Option S} {e e2 : En} (h : putAt i t e = some e2) : ∃ xs, t = some (.lst xs) ∧ e2 = e.set i (some (.lst xs)) := by
  unfold putAt at h
  split at h
  · cases h; exact ⟨_, rfl, rfl⟩
  · cases h
@[simp] def callM (F : List S → Out) (as : List AR) (e : En) : Out := match argS as e with
  | none => .stuck
  | some ss => if arOk as = true then (match F ss with
    | .stuck => .stuck
    | .ok s o => (match putb as o e with
      | some e2 => .ok s e2
      | none => .stuck)
    | .ex x o => (match putb as o e with
      | some e2 => .ex x e2
      | none => .stuck)) else .stuck
/-- H0: ahead of the call's arguments -/
def ARok (H0 : Hp) (W : List Addr) (K : PySem.W.Frag) (H : Hp) (σ : St) (e : En) : AR → V → Prop
  | .fz d, v => Rp W K H d v
  | .bw i, v => σ[i]? = some (some v)
  | .ow xs, v => ∃ a vs, v = .ref a ∧ H0 a = none ∧ a ∈ W ∧ H a = some (.lst vs) ∧ RpL W K H xs vs ∧ ¬ Ow σ e a
def ARs (H0 : Hp) (W : List Addr) (K : PySem.W.Frag) (H : Hp) (σ : St) (e : En) : List AR → List V → Prop
  | [], vs => vs = []
  | a :: as, vs => ∃ v us, vs = v :: us ∧ ARok H0 W K H σ e a v ∧ ARs H0 W K H σ e as us
section
variable {W W1 W2 W' : List Addr} {K : PySem.W.Frag} {mg : Str → Option Value} {Wx : WX} {H0 H H1 H2 H' : Hp} {σ : St} {e e1 e2 o : En} {Q : VK} {F : List S → Out}
theorem ARok.go (x : EX W H σ e W1 H1 σ e1) (r : SR W K H σ e) : ∀ {a : AR} {v : V}, ARok H0 W K H σ e a v → ARok H0 W1 K H1 σ e1 a v
  | .fz d, v, h => Rp.mono (x.ex r) d h
  | .bw i, v, h => h
  | .ow xs, v, ⟨a, vs, ev, h0, h1, h2, h3, h4⟩ => let q := x.tmp a h1 h4; ⟨a, vs, ev, h0, q.1, x.keep a _ h2 h4, RpL.mono (x.ex r) xs h3, q.2⟩
theorem ARok.back (k : ∀ a, H a = none → H0 a = none) : ∀ {a : AR} {v : V}, ARok H W1 K H1 σ e1 a v → ARok H0 W1 K H1 σ e1 a v
  | .fz d, v, h => h
  | .bw i, v, h => h
  | .ow xs, v, ⟨a, vs, ev, h0, h⟩ => ⟨a, vs, ev, k a h0, h⟩
theorem ARs.back (k : ∀ a, H a = none → H0 a = none) : ∀ {as : List AR} {vs : List V}, ARs H W1 K H1 σ e1 as vs → ARs H0 W1 K H1 σ e1 as vs
  | [], _, h => h
  | a :: as, _, ⟨v, us, ev, h1, h2⟩ => ⟨v, us, ev, h1.back k, ARs.back k h2⟩
theorem ARs.len : ∀ {as : List AR} {vs : List V}, ARs H0 W K H σ e as vs → vs.length = as.length
  | [], _, h => by cases (show _ = [] from h); rfl
  | a :: as, _, ⟨v, us, ev, h1, h2⟩ => by subst ev; rw [List.length_cons, List.length_cons, ARs.len h2]
theorem ARs.at : ∀ {as : List AR} {vs : List V} {i : Nat} {a : AR}, ARs H0 W K H σ e as vs → as[i]? = some a → ∃ v, vs[i]? = some v ∧ ARok H0 W K H σ e a v
  | [], _, _, _, _, h => by simp at h
  | b :: as, _, 0, a, ⟨v, us, ev, h1, h2⟩, h => by subst ev; simp at h; subst h; exact ⟨v, rfl, h1⟩
  | b :: as, _, i + 1, a, ⟨v, us, ev, h1, h2⟩, h => by
    subst ev
    obtain ⟨u, q1, q2⟩ := ARs.at (i := i) h2 (by simpa using h)
    exact ⟨u, by simpa using q1, q2⟩
theorem argS_len : ∀ {as : List AR} {ss : List S}, argS as e = some ss → ss.length = as.length
  | [], _, h => by cases h; rfl
  | a :: as, ss, h => by
    obtain ⟨s, _, h⟩ := Option.bind_eq_some_iff.mp h
    obtain ⟨r, h1, h2⟩ := Option.map_eq_some_iff.mp h
    rw [← h2, List.length_cons, List.length_cons, argS_len h1]
theorem argS_at : ∀ {as : List AR} {ss : List S} {i : Nat} {a : AR}, argS as e = some ss → as[i]? = some a → (∃ x, a = .fz x ∧ ss[i]? = some (.d x)) ∨ (∃ j xs, a = .bw j ∧ e[j]? = some (some (.lst xs)) ∧ ss[i]? = some (.lst xs)) ∨ ∃ xs, a = .ow xs ∧ ss[i]? = some (.lst xs)
  | [], _, _, _, _, h => by simp at h
  | b :: as, ss, 0, a, h, q => by
    obtain ⟨s, h0, h⟩ := Option.bind_eq_some_iff.mp h
    obtain ⟨r, h1, h2⟩ := Option.map_eq_some_iff.mp h
    simp at q
    subst q h2
    cases b with
    | fz x => cases h0; exact .inl ⟨x, rfl, rfl⟩
    | ow x => cases h0; exact .inr (.inr ⟨x, rfl, rfl⟩)
    | bw j =>
      have h0 : (match e[j]? with | some (some (.lst xs)) => some (S.lst xs) | _ => none) = some s := h0
      split at h0
      · rename_i xs hx
        cases h0
        exact .inr (.inl ⟨j, xs, rfl, hx, rfl⟩)
      · cases h0
  | b :: as, ss, i + 1, a, h, q => by
    obtain ⟨s, h0, h⟩ := Option.bind_eq_some_iff.mp h
    obtain ⟨r, h1, h2⟩ := Option.map_eq_some_iff.mp h
    subst h2
    exact argS_at (i := i) h1 (by simpa using q)
theorem bws_inj : ∀ {as : List AR} {i j k : Nat}, (bws as).Nodup → as[i]? = some (.bw k) → as[j]? = some (.bw k) → i = j
  | [], _, _, _, _, h, _ => by simp at h
  | a :: as, 0, 0, _, _, _, _ => rfl
  | a :: as, 0, j + 1, k, n, h1, h2 => by
    simp at h1 h2
    subst h1
    have n : (k :: bws as).Nodup := n
    exact absurd (bw_mem h2) (List.nodup_cons.mp n).1
  | a :: as, i + 1, 0, k, n, h1, h2 => by
    simp at h1 h2
    subst h2
    have n : (k :: bws as).Nodup := n
    exact absurd (bw_mem h1) (List.nodup_cons.mp n).1
  | a :: as, i + 1, j + 1, k, n, h1, h2 => by
    have n2 : (bws as).Nodup := by
      cases a with
      | bw q => exact (List.nodup_cons.mp (show (q :: bws as).Nodup from n)).2
      | fz q => exact n
      | ow q => exact n
    rw [bws_inj (i := i) (j := j) n2 (by simpa using h1) (by simpa using h2)]
where bw_mem : ∀ {as : List AR} {i k : Nat}, as[i]? = some (.bw k) → k ∈ bws as
  | [], _, _, h => by simp at h
  | a :: as, 0, k, h => by simp at h; subst h; exact List.mem_cons_self
  | a :: as, i + 1, k, h => by
    have := bw_mem (as := as) (i := i) (k := k) (by simpa using h)
    cases a with
    | bw q => exact List.mem_cons_of_mem _ this
    | fz q => exact this
    | ow q => exact this
theorem ows_one : ∀ {as : List AR} {i j : Nat} {xs ys : List D}, ows as ≤ 1 → as[i]? = some (.ow xs) → as[j]? = some (.ow ys) → i = j
  | [], _, _, _, _, _, h, _ => by simp at h
  | a :: as, 0, 0, _, _, _, _, _ => rfl
  | a :: as, 0, j + 1, xs, ys, n, h1, h2 => by
    simp at h1 h2
    subst h1
    have n : ows as + 1 ≤ 1 := n
    have := ow_pos h2
    omega
  | a :: as, i + 1, 0, xs, ys, n, h1, h2 => by
    simp at h1 h2
    subst h2
    have n : ows as + 1 ≤ 1 := n
    have := ow_pos h1
    omega
  | a :: as, i + 1, j + 1, xs, ys, n, h1, h2 => by
    have n2 : ows as ≤ 1 := by
      cases a with
      | bw q => exact n
      | fz q => exact n
      | ow q => exact Nat.le_trans (Nat.le_succ _) (show ows as + 1 ≤ 1 from n)
    rw [ows_one (i := i) (j := j) n2 (by simpa using h1) (by simpa using h2)]
where ow_pos : ∀ {as : List AR} {i : Nat} {xs : List D}, as[i]? = some (.ow xs) → 0 < ows as
  | [], _, _, h => by simp at h
  | a :: as, 0, k, h => by simp at h; subst h; exact Nat.succ_pos _
  | a :: as, i + 1, k, h => by
    have := ow_pos (as := as) (i := i) (xs := k) (by simpa using h)
    cases a with
    | bw q => exact this
    | fz q => exact this
    | ow q => exact Nat.succ_pos _
theorem putb_len : ∀ {as : List AR} {o e e2 : En}, putb as o e = some e2 → e2.length = e.length
  | [], _, _, _, h => by cases h; rfl
  | a :: as, [], _, _, h => by cases h
  | a :: as, t :: r, e, e2, h => by
    cases a with
    | fz x => exact putb_len (as := as) h
    | ow x => exact putb_len (as := as) h
    | bw i =>
      obtain ⟨e3, h1, h2⟩ := Option.bind_eq_some_iff.mp (show (putAt i t e).bind (putb as r) = some e2 from h)
      obtain ⟨xs, _, rfl⟩ := putAt_ok h1
      rw [putb_len (as := as) h2, List.length_set]
theorem putb_at : ∀ {as : List AR} {o e e2 : En} {j : Nat} {t : S}, putb as o e = some e2 → e2[j]? = some (some t) →
    (∃ (k : Nat) (xs : List D), as[k]? = some (AR.bw j) ∧ t = S.lst xs ∧ o[k]? = some (some (S.lst xs))) ∨ (e[j]? = some (some t) ∧ ∀ k : Nat, as[k]? ≠ some (AR.bw j))
  | [], _, _, _, _, _, h, q => by cases h; exact .inr ⟨q, fun k => by simp⟩
  | a :: as, [], _, _, _, _, h, _ => by cases h
  | a :: as, u :: r, e, e2, j, t, h, q => by
    have up : ∀ {e : En}, (∀ i, a = .bw i → i ≠ j) → ((∃ (k : Nat) (xs : List D), as[k]? = some (AR.bw j) ∧ t = S.lst xs ∧ r[k]? = some (some (S.lst xs))) ∨ (e[j]? = some (some t) ∧ ∀ k : Nat, as[k]? ≠ some (AR.bw j))) →
        ((∃ (k : Nat) (xs : List D), (a :: as)[k]? = some (AR.bw j) ∧ t = S.lst xs ∧ (u :: r)[k]? = some (some (S.lst xs))) ∨ (e[j]? = some (some t) ∧ ∀ k : Nat, (a :: as)[k]? ≠ some (AR.bw j))) := by
      intro e hn z
      rcases z with ⟨k, xs, z1, z2, z3⟩ | ⟨z1, z2⟩
      · exact .inl ⟨k + 1, xs, by simpa using z1, z2, by simpa using z3⟩
      · refine .inr ⟨z1, fun k => ?_⟩
        cases k with
        | zero => intro w; simp at w; exact hn j w rfl
        | succ k => simpa using z2 k
    cases a with
    | fz x => exact up (fun i z => nomatch z) (putb_at (as := as) h q)
    | ow x => exact up (fun i z => nomatch z) (putb_at (as := as) h q)
    | bw i =>
      obtain ⟨e3, h1, h2⟩ := Option.bind_eq_some_iff.mp (show (putAt i u e).bind (putb as r) = some e2 from h)
      obtain ⟨xs, rfl, rfl⟩ := putAt_ok h1
      have z := putb_at (as := as) h2 q
      by_cases hij : i = j
      · subst hij
        rcases z with ⟨k, ys, z1, z2, z3⟩ | ⟨z1, z2⟩
        · exact .inl ⟨k + 1, ys, by simpa using z1, z2, by simpa using z3⟩
        · by_cases hl : i < e.length
          · rw [List.getElem?_set_self hl] at z1
            cases z1
            exact .inl ⟨0, xs, rfl, rfl, rfl⟩
          · rw [List.getElem?_eq_none (by simpa using hl)] at z1
            cases z1
      · rw [List.getElem?_set_ne hij] at z
        exact up (fun _ w => by cases w; exact hij) z
/-- behind the callee: the caller's frame again -/
theorem call_ok {as : List AR} {vs : List V} {n : Nat} (wm : WM W H) (sr1 : SR W1 K H1 σ e1) (x1 : EX W H σ e W1 H1 σ e1) (ar : ARs H W1 K H1 σ e1 as vs) (hn : as.length = n)
    (h : OutK K mg Wx W H σ e Q (callM F as e1)) : spF K mg n F (fun c d H' => Wx c d σ H') vs H1 Q := by
  refine ⟨by rw [ar.len, hn], W1, ?_⟩
  unfold callM at h
  cases hs : argS as e1 with
  | none => rw [hs] at h; exact h.elim
  | some ss =>
    rw [hs] at h
    have h : OutK K mg Wx W H σ e Q (if arOk as = true then (match F ss with
      | .stuck => .stuck
      | .ok s o => (match putb as o e1 with
        | some e2 => .ok s e2
        | none => .stuck)
      | .ex x o => (match putb as o e1 with
        | some e2 => .ex x e2
        | none => .stuck)) else .stuck) := h
    split at h
    rotate_left
    · exact h.elim
    rename_i hok
    obtain ⟨hb1, hb2⟩ := Bool.and_eq_true_iff.mp (show (decide ((bws as).Nodup) && decide (ows as ≤ 1)) = true from hok)
    have nd := of_decide_eq_true hb1
    have n1 := of_decide_eq_true hb2
    have hlen : ss.length = vs.length := by rw [argS_len hs, ar.len]
    -- what the callee's frame owns
    have own_at : ∀ {i : Nat} {s : S} {a : Addr}, (ss.map some)[i]? = some (some s) → s.own = true → (vs.map some)[i]? = some (some (.ref a)) →
        (∃ j xs, as[i]? = some (.bw j) ∧ e1[j]? = some (some (.lst xs)) ∧ σ[j]? = some (some (.ref a)) ∧ s = .lst xs) ∨ (∃ xs, as[i]? = some (.ow xs) ∧ H a = none ∧ ¬ Ow σ e1 a ∧ s = .lst xs) := by
      intro i s a h1 h2 h3
      obtain ⟨s', q1, q2⟩ := get_map h1
      cases q2
      obtain ⟨v', p1, p2⟩ := get_map h3
      cases p2
      have hi : i < as.length := by rw [← argS_len hs]; exact (List.getElem?_eq_some_iff.mp q1).1
      obtain ⟨ar', hai⟩ : ∃ z, as[i]? = some z := ⟨as[i], List.getElem?_eq_getElem hi⟩
      obtain ⟨v2, w1, w2⟩ := ar.at hai
      rw [p1] at w1
      cases w1
      rcases argS_at hs hai with ⟨x, rfl, y⟩ | ⟨j, xs, rfl, y1, y2⟩ | ⟨xs, rfl, y⟩
      · rw [q1] at y; cases y; cases h2
      · rw [q1] at y2; cases y2
        exact .inl ⟨j, xs, hai, y1, w2, rfl⟩
      · rw [q1] at y; cases y
        obtain ⟨b, us, eb, z0, z1, z2, z3, z4⟩ := w2
        cases eb
        exact .inr ⟨xs, hai, z0, z4, rfl⟩
    have r0 : SR W1 K H1 (vs.map some) (ss.map some) := by
      refine ⟨sr1.wm, by rw [List.length_map, List.length_map, hlen], fun i s q => ?_, fun i j s t a q1 q2 o1 o2 p1 p2 => ?_⟩
      · obtain ⟨s', q1, q2⟩ := get_map q
        cases q2
        have hi : i < as.length := by rw [← argS_len hs]; exact (List.getElem?_eq_some_iff.mp q1).1
        obtain ⟨ar', hai⟩ : ∃ z, as[i]? = some z := ⟨as[i], List.getElem?_eq_getElem hi⟩
        obtain ⟨v2, w1, w2⟩ := ar.at hai
        refine ⟨v2, by rw [List.getElem?_map, w1]; rfl, ?_⟩
        rcases argS_at hs hai with ⟨x, rfl, y⟩ | ⟨j, xs, rfl, y1, y2⟩ | ⟨xs, rfl, y⟩
        · rw [q1] at y; cases y; exact w2
        · rw [q1] at y2; cases y2
          obtain ⟨v3, u1, u2⟩ := sr1.sl j _ y1
          rw [show σ[j]? = some (some v2) from w2] at u1
          cases u1
          exact u2
        · rw [q1] at y; cases y
          obtain ⟨b, us, eb, z0, z1, z2, z3, z4⟩ := w2
          exact ⟨b, us, eb, z1, z2, z3⟩
      · rcases own_at q1 o1 p1 with ⟨j1, xs1, a1, b1, c1, _⟩ | ⟨xs1, a1, b1, c1, _⟩
        · rcases own_at q2 o2 p2 with ⟨j2, xs2, a2, b2, c2, _⟩ | ⟨xs2, a2, b2, c2, _⟩
          · have := sr1.one j1 j2 _ _ a b1 b2 rfl rfl c1 c2
            subst this
            exact bws_inj nd a1 a2
          · exact absurd ⟨j1, _, b1, rfl, c1⟩ c2
        · rcases own_at q2 o2 p2 with ⟨j2, xs2, a2, b2, c2, _⟩ | ⟨xs2, a2, b2, c2, _⟩
          · exact absurd ⟨j2, _, b2, rfl, c2⟩ c1
          · exact ows_one n1 a1 a2
    refine ⟨ss, r0, ?_⟩
    have not_own : ∀ {a : Addr} {oo : HO}, H a = some oo → ¬ Ow σ e a → ¬ Ow (vs.map some) (ss.map some) a := by
      rintro a oo ha nn ⟨i, s, z1, z2, z3⟩
      rcases own_at z1 z2 z3 with ⟨j, xs, _, y1, y2, _⟩ | ⟨xs, _, y1, _⟩
      · rcases x1.sub a ⟨j, _, y1, rfl, y2⟩ with w | w
        · exact nn w
        · rw [ha] at w; cases w
      · rw [ha] at y1; cases y1
    -- the two ends alike
    have key : ∀ {o : En} {e2 : En} {W' : List Addr} {H' : Hp}, putb as o e1 = some e2 → SR W' K H' (vs.map some) o → EX W1 H1 (vs.map some) (ss.map some) W' H' (vs.map some) o →
        SR W' K H' σ e2 ∧ EX W H σ e W' H' σ e2 ∧ ∀ a, Ow σ e2 a → Ow σ e1 a := by
      intro o e2 W' H' hp sr' x'
      have own1 : ∀ {j : Nat} {t : S}, e2[j]? = some (some t) → t.own = true → ∃ ys, e1[j]? = some (some (.lst ys)) := by
        intro j t q1 q2
        rcases putb_at hp q1 with ⟨k, xs, z1, z2, z3⟩ | ⟨z1, _⟩
        · rcases argS_at hs z1 with ⟨x, y, _⟩ | ⟨j', ys, y, y1, _⟩ | ⟨ys, y, _⟩
          · cases y
          · cases y; exact ⟨ys, y1⟩
          · cases y
        · obtain ⟨ys, rfl⟩ := own_lst q2
          exact ⟨ys, z1⟩
      have ow21 : ∀ a, Ow σ e2 a → Ow σ e1 a := by
        rintro a ⟨j, t, q1, q2, q3⟩
        obtain ⟨ys, y⟩ := own1 q1 q2
        exact ⟨j, _, y, rfl, q3⟩
      refine ⟨⟨sr'.wm, by rw [putb_len hp, sr1.len], fun j t q => ?_, fun i j s t a q1 q2 o1 o2 p1 p2 => ?_⟩, ⟨fun a oo ha nn => ?_, fun a oo ha na => ?_, fun a ha nn => ?_, fun a ha => x1.sub a (ow21 a ha), fun a ha => x1.dom a (x'.dom a ha)⟩, ow21⟩
      · rcases putb_at hp q with ⟨k, xs, z1, rfl, z3⟩ | ⟨z1, z2⟩
        · obtain ⟨v, w1, w2⟩ := ar.at z1
          obtain ⟨v', u1, u2⟩ := sr'.sl k _ z3
          rw [List.getElem?_map, w1] at u1
          cases u1
          exact ⟨v, w2, u2⟩
        · obtain ⟨v, w1, w2⟩ := sr1.sl j t z1
          refine ⟨v, w1, ?_⟩
          cases t with
          | d y => exact Rp.mono (x'.ex r0) y w2
          | lst ys =>
            obtain ⟨a, us, rfl, p1, p2, p3⟩ := w2
            have na : ¬ Ow (vs.map some) (ss.map some) a := by
              rintro ⟨i, s, y1, y2, y3⟩
              rcases own_at y1 y2 y3 with ⟨j', xs, u0, u1, u2, _⟩ | ⟨xs, _, _, u1, _⟩
              · have := sr1.one j' j _ _ a u1 z1 rfl rfl u2 w1
                subst this
                exact z2 i u0
              · exact u1 ⟨j, _, z1, rfl, w1⟩
            exact ⟨a, us, rfl, (x'.tmp a p1 na).1, x'.keep a _ p2 na, RpL.mono (x'.ex r0) ys p3⟩
      · obtain ⟨ys, y1⟩ := own1 q1 o1
        obtain ⟨zs, y2⟩ := own1 q2 o2
        exact sr1.one i j _ _ a y1 y2 rfl rfl p1 p2
      · exact x'.keep a oo (x1.keep a oo ha nn) (not_own ha nn)
      · have n1 := x1.frz a oo ha na
        cases hh : H1 a with
        | none => rw [x1.dom a hh] at ha; cases ha
        | some o1 => exact x'.frz a o1 hh n1
      · obtain ⟨m1, m2⟩ := x1.tmp a ha nn
        have hne := isSome_of_mut (wm a ha)
        cases hh : H a with
        | none => exact absurd hh hne
        | some oo => exact ⟨(x'.tmp a m1 (not_own hh nn)).1, fun z => m2 (ow21 a z)⟩
    revert h
    generalize F ss = r
    intro h
    cases r with
    | stuck => exact h.elim
    | ok s o =>
      have h : OutK K mg Wx W H σ e Q (match putb as o e1 with | some e2 => .ok s e2 | none => .stuck) := h
      cases hp : putb as o e1 with
      | none => rw [hp] at h; exact h.elim
      | some e2 =>
        rw [hp] at h
        intro v W' H' sr' x' rs fr
        obtain ⟨s2, x2, ow⟩ := key hp sr' x'
        exact h v W' H' s2 x2 rs fun so a ea => ⟨x1.dom a (fr so a ea).1, fun z => sr1.thr (sr1.ow (ow a z)) (fr so a ea).1⟩
    | ex y o =>
      have h : OutK K mg Wx W H σ e Q (match putb as o e1 with | some e2 => .ex y e2 | none => .stuck) := h
      cases hp : putb as o e1 with
      | none => rw [hp] at h; exact h.elim
      | some e2 =>
        rw [hp] at h
        intro c d W' H' sr' x' rx
        obtain ⟨s2, x2, ow⟩ := key hp sr' x'
        exact h c d W' H' s2 x2 rx
end
def OAK (K : PySem.W.Frag) (mg : Str → Option Value) (Wx : WX) (W : List Addr) (H : Hp) (σ : St) (e : En) (Q : List V → Hp → Prop) : OA → Prop
  | .stuck => False
  | .ok as e' => ∀ vs W' H', SR W' K H' σ e' → EX W H σ e W' H' σ e' → ARs H W' K H' σ e' as vs → Q vs H'
  | .ex x e' => ∀ cls d W' H', SR W' K H' σ e' → EX W H σ e W' H' σ e' → XR mg W' K H' x cls d → Wx cls d σ H'
abbrev FAR := En → OA
def tAr (K : PySem.W.Frag) (mg : Str → Option Value) (Wx : WX) (f : FAR) : TA := fun σ H Q => ∃ (W : List Addr) (e : En), SR W K H σ e ∧ OAK K mg Wx W H σ e Q (f e)
structure ARJ (X : Cx) (Wx : WX) (es : List Expr) (f : FAR) : Prop where
  pa : PA X es (tAr X.K X.mg Wx f)
theorem ARJ.of {X : Cx} {Wx : WX} {es : List Expr} {f : FAR} (h : ∃ t : TA, PA X es t ∧ ∀ (W : List Addr) (H : Hp) (σ : St) (e : En) (Q : List V → Hp → Prop), SR W X.K H σ e → OAK X.K X.mg Wx W H σ e Q (f e) → t σ H Q) : ARJ X Wx es f :=
  let ⟨_, p, k⟩ := h; ⟨⟨fun pos pins s σ H Q I ⟨W, e, a, b⟩ => p.run pos pins s σ H Q I (k W H σ e Q a b)⟩⟩
theorem ARJ.run {X : Cx} {Wx : WX} {es : List Expr} {f : FAR} (h : ARJ X Wx es f) : ∃ t : TA, PA X es t ∧ ∀ (W : List Addr) (H : Hp) (σ : St) (e : En) (Q : List V → Hp → Prop), SR W X.K H σ e → OAK X.K X.mg Wx W H σ e Q (f e) → t σ H Q :=
  ⟨_, h.pa, fun W H σ e Q a b => ⟨W, e, a, b⟩⟩
section
variable {X : Cx} {Wx : WX} {k : Nat} {d : He.DefD} {ps : List Str} {F : List S → Out} {x : Str} {p pos : Pos} {a : Expr} {es : List Expr} {fa : FM} {fs : FAR}
theorem OAK.go {W W1 : List Addr} {K : PySem.W.Frag} {mg : Str → Option Value} {H H1 : Hp} {σ : St} {e e1 : En} {Q : List V → Hp → Prop} (x : EX W H σ e W1 H1 σ e1) : ∀ {o : OA}, OAK K mg Wx W H σ e Q o → OAK K mg Wx W1 H1 σ e1 Q o
  | .stuck, h => h
  | .ok as e', h => fun vs W' H' sr y r => h vs W' H' sr (x.trans y) (r.back x.dom)
  | .ex z e', h => fun c d W' H' sr y r => h c d W' H' sr (x.trans y) r
theorem OAK.cons {W W1 : List Addr} {K : PySem.W.Frag} {mg : Str → Option Value} {H H1 : Hp} {σ : St} {e e1 : En} {Q : List V → Hp → Prop} {b : AR} {v : V} (sr : SR W1 K H1 σ e1) (x : EX W H σ e W1 H1 σ e1) (r : ARok H W1 K H1 σ e1 b v) : ∀ {o : OA}, OAK K mg Wx W H σ e Q (OA.cons b o) → OAK K mg Wx W1 H1 σ e1 (fun us H' => Q (v :: us) H') o
  | .stuck, h => h
  | .ex _ _, h => fun c d W' H' sr' y r' => h c d W' H' sr' (x.trans y) r'
  | .ok ds e', h => fun us W' H' sr' y r' => h (v :: us) W' H' sr' (x.trans y) ⟨v, us, rfl, r.go y sr, r'.back x.dom⟩
@[simp] def arNil : FAR := fun e => .ok [] e
theorem ar_nil : ARJ X Wx [] arNil := ARJ.of ⟨_, pa_nil, fun W H σ e Q sr h => h [] W H sr .refl rfl⟩
/-- slot i's list is lent -/
@[simp] def arBw (i : Nat) (fs : FAR) : FAR := fun e => match e[i]? with
  | some (some (.lst _)) => OA.cons (.bw i) (fs e)
  | _ => .stuck
theorem ar_bw (i : Nat) {y : Str} {py : Pos} (hr : ARJ X Wx es fs) (hN : X.N[i]? = some y := by rfl) (hv : Vis X.env.scope y := by first | exact Or.inl rfl | exact Or.inr (Or.inl rfl) | exact Or.inr (Or.inr rfl)) (hd : (y == ("__debug__" : Str)) = false := by decide)
    (hcd : (y == ("__classdict__" : Str)) = false := by decide) (hs : starEach (.Name y py :: es) X.env = (false, eval (.Name y py) X.env) :: starEach es X.env := by rfl) : ARJ X Wx (.Name y py :: es) (arBw i fs) := by
  obtain ⟨u, p', kb⟩ := hr.run
  refine ARJ.of ⟨_, pa_cons (pe_var hN hv hd hcd) p' hs, fun W H σ e Q sr h => ?_⟩
  unfold arBw at h
  split at h
  · rename_i xs hx
    obtain ⟨v, h1, h2⟩ := sr.sl i _ hx
    exact ⟨v, h1, kb W H σ e _ sr (OAK.cons (b := .bw i) sr .refl h1 h)⟩
  · exact h.elim
@[simp] def Out.arF (o : Out) (fs : FAR) : OA := match o with
  | .stuck => .stuck
  | .ok s e => OA.cons (.fz s.view) (fs e)
  | .ex x e => .ex x e
@[simp] def arFz (fa : FM) (fs : FAR) : FAR := fun e => (fa e).arF fs
theorem ar_fz (ha : PM X Wx a fa) (hr : ARJ X Wx es fs) (hs : starEach (a :: es) X.env = (false, eval a X.env) :: starEach es X.env := by rfl) : ARJ X Wx (a :: es) (arFz fa fs) := by
  obtain ⟨t, p, ka⟩ := ha.run
  obtain ⟨u, p', kb⟩ := hr.run
  refine ARJ.of ⟨_, pa_cons p p' hs, fun W H σ e Q sr h => ka W H σ e _ sr ?_⟩
  unfold arFz at h
  revert h
  generalize fa e = o
  intro h
  refine DK.out sr.wm ?_
  cases o with
  | stuck => exact h
  | ex x e1 => exact h
  | ok s e1 =>
    intro v W1 H1 sr1 x r
    exact kb W1 H1 σ e1 _ sr1 (OAK.cons (b := .fz s.view) sr1 x r h)
@[simp] def Out.arO (o : Out) (fs : FAR) : OA := match o with
  | .ok (.lst xs) e => OA.cons (.ow xs) (fs e)
  | .ex x e => .ex x e
  | _ => .stuck
@[simp] def arOw (fa : FM) (fs : FAR) : FAR := fun e => (fa e).arO fs
theorem ar_ow (ha : PM X Wx a fa) (hr : ARJ X Wx es fs) (hs : starEach (a :: es) X.env = (false, eval a X.env) :: starEach es X.env := by rfl) : ARJ X Wx (a :: es) (arOw fa fs) := by
  obtain ⟨t, p, ka⟩ := ha.run
  obtain ⟨u, p', kb⟩ := hr.run
  refine ARJ.of ⟨_, pa_cons p p' hs, fun W H σ e Q sr h => ka W H σ e _ sr ?_⟩
  unfold arOw at h
  revert h
  generalize fa e = o
  intro h
  cases o with
  | stuck => exact h
  | ex x e1 => exact h
  | ok s e1 =>
    cases s with
    | d y => exact h.elim
    | lst xs =>
      intro v W1 H1 sr1 x r fr
      obtain ⟨b, us, rfl, q1, q2, q3⟩ := r
      exact kb W1 H1 σ e1 _ sr1 (OAK.cons (b := .ow xs) sr1 x ⟨b, us, rfl, (fr rfl b rfl).1, q1, q2, q3, (fr rfl b rfl).2⟩ h)
@[simp] def OA.bind (o : OA) (f : List AR → En → Out) : Out := match o with
  | .stuck => .stuck
  | .ok as e => f as e
  | .ex x e => .ex x e
@[simp] def mFd (n : Nat) (F : List S → Out) (fs : FAR) : FM := fun e => (fs e).bind fun as e1 => if as.length = n then callM F as e1 else .stuck
theorem pm_fd (c : Cal X.prog X.w X.K X.mg X.base k d ps F) (hx : d.name = x) (hb : BindsA d ps) (hr : Room k X.A) (hgd : X.A.guards = some []) (tk : Takes X Wx) (ha : ARJ X Wx (a :: es) fs) (hg : Gl X x := by rfl)
    (hdb : (x == ("__debug__" : Str)) = false := by decide) (he : starEach (a :: es) X.env = (false, eval a X.env) :: starEach es X.env := by rfl) (hpl : (backTo pos (starEach es X.env)).any (·.1) = false := by rfl) :
    PM X Wx (.Call (.Name x p) (a :: es) [] pos) (mFd ps.length F fs) := by
  obtain ⟨t, pa, ka⟩ := ha.run
  refine PM.of ⟨_, pe_fd c hx hb hr hgd tk pa hg hdb he hpl, fun W H σ e Q sr h => ka W H σ e _ sr ?_⟩
  unfold mFd at h
  revert h
  generalize fs e = o
  intro h
  cases o with
  | stuck => exact h
  | ex x e1 => exact h
  | ok as e1 =>
    intro vs W1 H1 sr1 x ar
    have h : OutK X.K X.mg Wx W H σ e Q (if as.length = ps.length then callM F as e1 else .stuck) := h
    split at h
    · rename_i hn
      exact call_ok sr.wm sr1 x ar hn h
    · exact h.elim
end
end DL

set_option maxHeartbeats 2000000
namespace DL
open PySem PySem.Spec PyProof.Rows L2

/-! ## lists that a slot owns -/
section
variable {W W' W1 : List Addr} {K : PySem.W.Frag} {mg : Str → Option Value} {Wx : WX} {H H' H1 : Hp} {σ σ1 σ' : St} {e e1 e' : En} {Q : VK}
theorem SR.hit (r : SR W K H σ e) {i : Nat} {xs : List D} (h : e[i]? = some (some (.lst xs))) : ∃ a vs, σ[i]? = some (some (.ref a)) ∧ a ∈ W ∧ H a = some (.lst vs) ∧ RpL W K H xs vs := by
  obtain ⟨v, h1, a, vs, rfl, h2, h3, h4⟩ := r.sl i _ h
  exact ⟨a, vs, h1, h2, h3, h4⟩
/-- slot i's list gets other contents -/
theorem SR.setL (r : SR W K H σ e) {i : Nat} {xs ys : List D} {a : Addr} {us : List V} (h : e[i]? = some (some (.lst xs))) (ha : σ[i]? = some (some (.ref a))) (hw : a ∈ W) (hy : RpL W K H ys us) :
    SR W K (upd H a (.lst us)) σ (e.set i (some (.lst ys))) ∧ EX W H σ e W (upd H a (.lst us)) σ (e.set i (some (.lst ys))) := by
  have hl : i < e.length := (List.getElem?_eq_some_iff.mp h).1
  have ow : Ow σ e a := ⟨i, _, h, rfl, ha⟩
  have x : Ex W H W (upd H a (.lst us)) := ⟨r.wm, fun b o hb n => ⟨by rw [upd_ne fun (z : b = a) => n (by rw [z]; exact hw)]; exact hb, n⟩⟩
  have back : ∀ {j : Nat} {s : S}, (e.set i (some (S.lst ys)))[j]? = some (some s) → (i = j ∧ s = .lst ys) ∨ (i ≠ j ∧ e[j]? = some (some s)) := by
    intro j s q
    by_cases z : i = j
    · subst z
      rw [List.getElem?_set_self hl] at q
      cases q
      exact .inl ⟨rfl, rfl⟩
    · rw [List.getElem?_set_ne z] at q
      exact .inr ⟨z, q⟩
  have owb : ∀ b, Ow σ (e.set i (some (S.lst ys))) b → Ow σ e b := by
    rintro b ⟨j, s, q1, q2, q3⟩
    rcases back q1 with ⟨rfl, _⟩ | ⟨_, q⟩
    · exact ⟨i, _, h, rfl, q3⟩
    · exact ⟨j, s, q, q2, q3⟩
  refine ⟨⟨fun b hb => ?_, by rw [List.length_set, r.len], fun j s q => ?_, fun j k s t b q1 q2 o1 o2 p1 p2 => ?_⟩, ⟨fun b o hb n => ?_, fun _ _ _ n => n, fun b hb n => ⟨hb, fun z => n (owb b z)⟩, fun b z => .inl (owb b z), fun b hb => ?_⟩⟩
  · by_cases z : b = a
    · subst z; rw [upd_same]; trivial
    · rw [upd_ne z]; exact r.wm b hb
  · rcases back q with ⟨rfl, rfl⟩ | ⟨z, q⟩
    · exact ⟨_, ha, a, us, rfl, hw, upd_same, RpL.mono x ys hy⟩
    · obtain ⟨v, h1, h2⟩ := r.sl j s q
      refine ⟨v, h1, ?_⟩
      cases s with
      | d y => exact Rp.mono x y h2
      | lst zs =>
        obtain ⟨b, vs, rfl, p1, p2, p3⟩ := h2
        refine ⟨b, vs, rfl, p1, ?_, RpL.mono x zs p3⟩
        rw [upd_ne fun (w : b = a) => z (r.one i j _ _ a h q rfl rfl ha (by rw [← w]; exact h1))]
        exact p2
  · rcases back q1 with ⟨rfl, rfl⟩ | ⟨z1, q1⟩
    · rcases back q2 with ⟨rfl, rfl⟩ | ⟨z2, q2⟩
      · rfl
      · exact r.one i k _ _ b h q2 rfl o2 p1 p2
    · rcases back q2 with ⟨rfl, rfl⟩ | ⟨z2, q2⟩
      · exact r.one j i _ _ b q1 h o1 rfl p1 p2
      · exact r.one j k _ _ b q1 q2 o1 o2 p1 p2
  · rw [upd_ne fun (z : b = a) => n (by rw [z]; exact ow)]; exact hb
  · cases q : H b with
    | none => rfl
    | some o =>
      by_cases z : b = a
      · rw [z, upd_same] at hb; cases hb
      · rw [upd_ne z, q] at hb; cases hb
/-- .. and is left by name -/
theorem OutK.at (x : SR W1 K H1 σ e1 ∧ EX W H σ e W1 H1 σ e1) {s : D} {v : V} (r : Rp W1 K H1 s v) (h : OutK K mg Wx W H σ e Q (.ok (.d s) e1)) : Q v H1 := h v W1 H1 x.1 x.2 r fun z => nomatch z
end
section
variable {X : Cx} {Wx : WX} {a b : Expr} {fa fb : FM} {x : Str} {px apos cpos pos : Pos}
/-- a change of slot i's list by a value: what it answers, what it leaves -/
@[simp] def chg (i : Nat) (g : List D → D → Option (D × List D)) (d : D) (e : En) : Out := match e[i]? with
  | some (some (.lst xs)) => (match g xs d with
    | some (y, ys) => .ok (.d y) (e.set i (some (.lst ys)))
    | none => .stuck)
  | _ => .stuck
@[simp] def isL (i : Nat) (e : En) : Bool := match e[i]? with
  | some (some (.lst _)) => true
  | _ => false
@[simp] def mMt (i : Nat) (g : List D → D → Option (D × List D)) (fa : FM) : FM := fun e => if isL i e = true then (fa e).bind (chg i g) else .stuck
structure MtL (X : Cx) (id : String) (g : List D → D → Option (D × List D)) : Prop where
  run : ∃ r : V → List V → Hp → VK → Prop, MtR X id r ∧ ∀ (W : List Addr) (H : Hp) (l : Addr) (xs ys : List D) (d y : D) (vs : List V) (v : V) (Q : VK), WM W H → H l = some (.lst vs) → l ∈ W → RpL W X.K H xs vs → Rp W X.K H d v → g xs d = some (y, ys) →
    (∀ u us, Rp W X.K H y u → RpL W X.K H ys us → Q u (upd H l (.lst us))) → r (.ref l) [v] H Q
theorem pm_mt {id : String} {m : Str} {g : List D → D → Option (D × List D)} (i : Nat) (ho : MtL X id g) (slot : Slot "list" m id) (hty : typeOf (.builtin id) = pure (.type "method_descriptor")) (ha : PM X Wx a fa) (hN : X.N[i]? = some x := by rfl) (hv : Vis X.env.scope x := by first | exact Or.inl rfl | exact Or.inr (Or.inl rfl) | exact Or.inr (Or.inr rfl))
    (hd : (x == ("__debug__" : Str)) = false := by decide) (hcd : (x == ("__classdict__" : Str)) = false := by decide)
    (hbase : attributeBase (.Name x px) m X.env (eval (.Name x px) X.env) = eval (.Name x px) X.env := by rfl)
    (hfew : ((backTo cpos (starEach [a] X.env)).all (fun x => !x.1) && (backToKw cpos (keywordEach [] X.env)).all (fun x => x.1.isSome) && decide (([a] : List Expr).length + ([] : List Keyword).length + (if ([] : List Keyword).isEmpty then 0 else 1) < 30)) = true := by rfl)
    (hline : (apos.endLine == cpos.line) = true := by rfl) (hs : starEach [a] X.env = (false, eval a X.env) :: starEach [] X.env := by rfl) (hplain : (backTo cpos (starEach [] X.env)).any (·.1) = false := by rfl) :
    PM X Wx (.Call (.Attribute (.Name x px) m apos) [a] [] cpos) (mMt i g fa) := by
  obtain ⟨rl, h1, h2⟩ := ho.run
  obtain ⟨t, p, ka⟩ := ha.run
  refine PM.of ⟨_, pe_bm F.plainAttrs_list slot hty h1 (pe_var hN hv hd hcd) (pa_cons p pa_nil hs) hbase hfew hline hs hplain, fun W H σ e Q sr h => ?_⟩
  unfold mMt at h
  split at h
  rotate_left
  · exact h.elim
  rename_i hl
  unfold isL at hl
  split at hl
  rotate_left
  · cases hl
  rename_i xs0 hx0
  obtain ⟨l, vs0, e1, e2, e3, e4⟩ := sr.hit hx0
  refine ⟨_, e1, .inl ⟨rfl, vs0, .of e3⟩, ?_⟩
  refine ka W H σ e _ sr (DK.bind sr.wm h fun d v e' W1 H1 sr1 x1 r1 hc => ?_)
  show rl _ [v] H1 Q
  unfold chg at hc
  split at hc
  rotate_left
  · exact hc.elim
  rename_i xs hx
  split at hc
  rotate_left
  · exact hc.elim
  rename_i y ys hg
  obtain ⟨l', vs, q1, q2, q3, q4⟩ := sr1.hit hx
  rw [e1] at q1
  cases q1
  exact h2 W1 H1 l xs ys d y vs v Q sr1.wm q3 q2 q4 r1 hg fun u us ru rus => OutK.at (sr1.setL hx e1 q2 rus) (Rp.mono (EX.ex (sr1.setL hx e1 q2 rus).2 sr1) y ru) hc
@[simp] def gApp (xs : List D) (d : D) : Option (D × List D) := if xs.length < SZ then some (.non, xs ++ [d]) else none
theorem l_append : MtL X "list.append" gApp := by
  refine ⟨_, mt_append, fun W H l xs ys d y vs v Q wm hl hw rx rd hg k => ?_⟩
  unfold gApp at hg
  split at hg
  · rename_i hz
    cases hg
    exact ⟨l, vs, v, rfl, rfl, hl, by rw [SZ_eq, ← rx.length]; exact hz, k _ _ rfl (rx.append (.one rd))⟩
  · cases hg
@[simp] def gExt (xs : List D) (d : D) : Option (D × List D) := match d with
  | .lst ys => if xs.length + ys.length ≤ SZ then some (.non, xs ++ ys) else none
  | _ => none
theorem l_extend : MtL X "list.extend" gExt := by
  refine ⟨_, mt_extend, fun W H l xs ys d y vs v Q wm hl hw rx rd hg k => ?_⟩
  unfold gExt at hg
  split at hg
  · split at hg
    · rename_i zs hz
      cases hg
      obtain ⟨b, us, rfl, q1, q2⟩ := rd
      exact ⟨l, b, vs, us, rfl, rfl, hl, q1.1, by rw [SZ_eq, ← rx.length, ← q2.length]; exact hz, k _ _ rfl (rx.append q2)⟩
    · cases hg
  · cases hg
@[simp] def gPopAt (xs : List D) (d : D) : Option (D × List D) := match d with
  | .int i => if -(2 ^ 63) ≤ i ∧ i < 2 ^ 63 then (seqIndex? i xs.length).bind fun k => (xs[k]?).map fun y => (y, xs.eraseIdx k) else none
  | _ => none
theorem l_popAt : MtL X "list.pop" gPopAt := by
  refine ⟨_, mt_popAt, fun W H l xs ys d y vs v Q wm hl hw rx rd hg k => ?_⟩
  unfold gPopAt at hg
  split at hg
  · split at hg
    · rename_i i hz
      obtain ⟨j, e1, hg⟩ := Option.bind_eq_some_iff.mp hg
      obtain ⟨z, e2, hg⟩ := Option.map_eq_some_iff.mp hg
      cases hg
      obtain ⟨u, e3, ru⟩ := rx.get e2
      cases (show v = .int i from rd)
      exact ⟨l, vs, i, j, u, rfl, rfl, hl, hz.1, hz.2, by rw [← rx.length]; exact e1, e3, k _ _ ru (rx.eraseIdx j)⟩
    · cases hg
  · cases hg
/-- without an argument -/
@[simp] def chg0 (i : Nat) (g : List D → Option (D × List D)) (e : En) : Out := match e[i]? with
  | some (some (.lst xs)) => (match g xs with
    | some (y, ys) => .ok (.d y) (e.set i (some (.lst ys)))
    | none => .stuck)
  | _ => .stuck
structure MtL0 (X : Cx) (id : String) (g : List D → Option (D × List D)) : Prop where
  run : ∃ r : V → List V → Hp → VK → Prop, MtR X id r ∧ ∀ (W : List Addr) (H : Hp) (l : Addr) (xs ys : List D) (y : D) (vs : List V) (Q : VK), WM W H → H l = some (.lst vs) → l ∈ W → RpL W X.K H xs vs → g xs = some (y, ys) →
    (∀ u us, Rp W X.K H y u → RpL W X.K H ys us → Q u (upd H l (.lst us))) → r (.ref l) [] H Q
theorem pm_mt0 {id : String} {m : Str} {g : List D → Option (D × List D)} (i : Nat) (ho : MtL0 X id g) (slot : Slot "list" m id) (hty : typeOf (.builtin id) = pure (.type "method_descriptor")) (hN : X.N[i]? = some x := by rfl) (hv : Vis X.env.scope x := by first | exact Or.inl rfl | exact Or.inr (Or.inl rfl) | exact Or.inr (Or.inr rfl))
    (hd : (x == ("__debug__" : Str)) = false := by decide) (hcd : (x == ("__classdict__" : Str)) = false := by decide)
    (hbase : attributeBase (.Name x px) m X.env (eval (.Name x px) X.env) = eval (.Name x px) X.env := by rfl) (hline : (apos.endLine == cpos.line) = true := by rfl) :
    PM X Wx (.Call (.Attribute (.Name x px) m apos) [] [] cpos) (chg0 i g) := by
  obtain ⟨rl, h1, h2⟩ := ho.run
  refine PM.of ⟨_, pe_bm0 F.plainAttrs_list slot hty h1 (pe_var hN hv hd hcd) hbase hline, fun W H σ e Q sr hc => ?_⟩
  unfold chg0 at hc
  split at hc
  rotate_left
  · exact hc.elim
  rename_i xs hx
  split at hc
  rotate_left
  · exact hc.elim
  rename_i y ys hg
  obtain ⟨l, vs, q1, q2, q3, q4⟩ := sr.hit hx
  refine ⟨_, q1, .inl ⟨rfl, vs, .of q3⟩, ?_⟩
  exact h2 W H l xs ys y vs Q sr.wm q3 q2 q4 hg fun u us ru rus => OutK.at (sr.setL hx q1 q2 rus) (Rp.mono (EX.ex (sr.setL hx q1 q2 rus).2 sr) y ru) hc
@[simp] def gPop (xs : List D) : Option (D × List D) := (xs[xs.length - 1]?).map fun y => (y, xs.dropLast)
theorem l_pop : MtL0 X "list.pop" gPop := by
  refine ⟨_, mt_pop, fun W H l xs ys y vs Q wm hl hw rx hg k => ?_⟩
  obtain ⟨z, e2, hg⟩ := Option.map_eq_some_iff.mp hg
  cases hg
  obtain ⟨u, e3, ru⟩ := rx.get e2
  refine ⟨l, vs, u, rfl, rfl, hl, by rw [← rx.length]; exact e3, k _ _ ru ?_⟩
  rw [List.dropLast_eq_take, List.dropLast_eq_take, ← rx.length]
  exact rx.take _
end

/-! ## statements -/
section
variable {W W' W1 : List Addr} {K : PySem.W.Frag} {mg : Str → Option Value} {Wx : WX} {lk : List Nat} {H H' H1 : Hp} {σ σ1 σ' : St} {e e1 e' : En} {Q : VK} {D0 : Ends}
theorem FlK.go (x : EX W H σ e W1 H1 σ1 e1) (hl : ∀ i ∈ lk, σ1[i]? = σ[i]?) : ∀ {fl : Fl}, FlK K mg Wx lk W H σ e D0 fl → FlK K mg Wx lk W1 H1 σ1 e1 D0 fl
  | .stuck, h => h
  | .nx e', h => fun W' H' σ' sr y l => h W' H' σ' sr (x.trans y) fun i hi => (l i hi).trans (hl i hi)
  | .bk e', h => fun W' H' σ' sr y l => h W' H' σ' sr (x.trans y) fun i hi => (l i hi).trans (hl i hi)
  | .ct e', h => fun W' H' σ' sr y l => h W' H' σ' sr (x.trans y) fun i hi => (l i hi).trans (hl i hi)
  | .rt s e', h => fun v W' H' σ' sr y l r o => h v W' H' σ' sr (x.trans y) (fun i hi => (l i hi).trans (hl i hi)) r fun so a ea => ⟨(o so a ea).1, (o so a ea).2.elim (x.sub a) fun z => .inr (x.dom a z)⟩
  | .ex z e', h => fun c d W' H' σ' sr y l r => h c d W' H' σ' sr (x.trans y) (fun i hi => (l i hi).trans (hl i hi)) r
@[simp] def Fl.seq (fl : Fl) (f : FS) : Fl := match fl with
  | .nx e => f e
  | o => o
@[simp] def sSeq (f g : FS) : FS := fun e => (f e).seq g
@[simp] def sNil : FS := fun e => .nx e
/-- out of an expression -/
@[simp] def Out.st (o : Out) (f : S → FS) : Fl := match o with
  | .stuck => .stuck
  | .ok s e => f s e
  | .ex x e => .ex x e
end
section
variable {X : Cx} {Wx : WX} {lk : List Nat} {a b c : Expr} {fa fb : FM} {stm : Stmt} {rest sts sts2 : List Stmt} {f g : FS} {pos : Pos}
theorem sds_nil : SDs X Wx lk [] sNil := SDs.of ⟨_, pss_nil, fun W H σ e D sr h => h W H σ sr .refl fun _ _ => rfl⟩
theorem sds_cons (h1 : SD X Wx lk stm f) (h2 : SDs X Wx lk rest g) : SDs X Wx lk (stm :: rest) (sSeq f g) := by
  obtain ⟨t, p, k⟩ := h1.run
  obtain ⟨u, p', k'⟩ := h2.run
  refine SDs.of ⟨_, pss_cons p p', fun W H σ e D sr h => k W H σ e _ sr ?_⟩
  unfold sSeq at h
  revert h
  generalize f e = fl
  intro h
  cases fl with
  | nx e1 => exact fun W1 H1 σ1 sr1 x l => k' W1 H1 σ1 e1 D sr1 (FlK.go x l h)
  | _ => exact h
theorem sds_one (h1 : SD X Wx lk stm f) : SDs X Wx lk [stm] f := by
  obtain ⟨t, p, k⟩ := h1.run
  exact SDs.of ⟨_, pss_one p, k⟩
@[simp] def sStuck : FS := fun _ => .stuck
theorem sd_never : SD X Wx lk stm sStuck := SD.of ⟨_, ps_never, fun W H σ e D sr h => h⟩
theorem sd_pass : SD X Wx lk (.Pass pos) sNil := SD.of ⟨_, ps_pass, fun W H σ e D sr h => h W H σ sr .refl fun _ _ => rfl⟩
@[simp] def sBreak : FS := fun e => .bk e
@[simp] def sCont : FS := fun e => .ct e
theorem sd_break : SD X Wx lk (.Break pos) sBreak := SD.of ⟨_, ps_break, fun W H σ e D sr h => h W H σ sr .refl fun _ _ => rfl⟩
theorem sd_cont : SD X Wx lk (.Continue pos) sCont := SD.of ⟨_, ps_continue, fun W H σ e D sr h => h W H σ sr .refl fun _ _ => rfl⟩
/-- through an expression: frozen -/
theorem DK.st {W : List Addr} {H : Hp} {σ : St} {e : En} {D0 : Ends} {Q0 : VK} {o : Out} {f : S → FS} (wm : WM W H) (h : FlK X.K X.mg Wx lk W H σ e D0 (o.st f))
    (k : ∀ s v e1 W1 H1, SR W1 X.K H1 σ e1 → EX W H σ e W1 H1 σ e1 → Rp W1 X.K H1 s.view v → FlK X.K X.mg Wx lk W1 H1 σ e1 D0 (f s e1) → Q0 v H1) : OutK X.K X.mg Wx W H σ e Q0 o :=
  DK.out wm (match o with
    | .stuck => h
    | .ex z e' => fun c d W' H' sr x r => h c d W' H' σ sr x (fun _ _ => rfl) r
    | .ok s e1 => fun v W1 H1 sr1 x r => k s v e1 W1 H1 sr1 x r (FlK.go (fl := f s e1) x (fun _ _ => rfl) h))
/-- .. as it is -/
theorem OutK.st {W : List Addr} {H : Hp} {σ : St} {e : En} {D0 : Ends} {Q0 : VK} {o : Out} {f : S → FS} (h : FlK X.K X.mg Wx lk W H σ e D0 (o.st f))
    (k : ∀ s v e1 W1 H1, SR W1 X.K H1 σ e1 → EX W H σ e W1 H1 σ e1 → RS W1 X.K H1 s v → (s.own = true → ∀ a, v = .ref a → H a = none ∧ ¬ Ow σ e1 a) → FlK X.K X.mg Wx lk W H σ e D0 (f s e1) → Q0 v H1) : OutK X.K X.mg Wx W H σ e Q0 o :=
  match o with
    | .stuck => h
    | .ex z e' => fun c d W' H' sr x r => h c d W' H' σ sr x (fun _ _ => rfl) r
    | .ok s e1 => fun v W1 H1 sr1 x r fr => k s v e1 W1 H1 sr1 x r fr h
@[simp] def sExpr (fa : FM) : FS := fun e => (fa e).st fun _ e1 => .nx e1
theorem sd_expr (ha : PM X Wx a fa) (hs : swapsWith a none pos.line X.env = pure false := by rfl) : SD X Wx lk (.Expr a pos) (sExpr fa) := by
  obtain ⟨t, p, k⟩ := ha.run
  exact SD.of ⟨_, ps_expr p hs, fun W H σ e D sr h => k W H σ e _ sr (DK.st sr.wm h fun s v e1 W1 H1 sr1 x r h1 => h1 W1 H1 σ sr1 .refl fun _ _ => rfl)⟩
theorem sd_doc {x j pos'} : SD X Wx lk (.Expr (.Constant (.str x) j pos) pos') sNil := SD.of ⟨_, ps_doc, fun W H σ e D sr h => h W H σ sr .refl fun _ _ => rfl⟩
/-! ### name = .. -/
theorem setD_st {W : List Addr} {H : Hp} {σ : St} {e : En} {D0 : Ends} {i : Nat} {d : D} {v : V} (hlk : i ∉ lk) (hi : i < e.length) (sr : SR W X.K H σ e) (r : Rp W X.K H d v) (h : FlK X.K X.mg Wx lk W H σ e D0 (.nx (e.set i (some (.d d))))) : D0.nx (σ.set i (some v)) H := by
  have hσ : i < σ.length := by rw [← sr.len]; exact hi
  refine h W H _ (sr.setD hσ r) ⟨fun _ _ q _ => q, fun _ _ _ n => n, fun a q n => ⟨q, fun z => n (z.setD hi)⟩, fun a z => .inl (z.setD hi), fun _ q => q⟩ fun j hj => List.getElem?_set_ne fun (z : i = j) => hlk (by rw [z]; exact hj)
/-- the name gets frozen data -/
@[simp] def put (i : Nat) (d : D) (e : En) : Fl := if i < e.length then .nx (e.set i (some (.d d))) else .stuck
@[simp] def sSet (i : Nat) (fa : FM) : FS := fun e => (fa e).st fun s e1 => put i s.view e1
theorem put_st {W : List Addr} {H : Hp} {σ : St} {e : En} {D0 : Ends} {i : Nat} {d : D} {v : V} (hlk : i ∉ lk) (sr : SR W X.K H σ e) (r : Rp W X.K H d v) (h : FlK X.K X.mg Wx lk W H σ e D0 (put i d e)) : D0.nx (σ.set i (some v)) H := by
  unfold put at h
  split at h
  · rename_i hi
    exact setD_st hlk hi sr r h
  · exact h.elim
theorem sd_set (i : Nat) {x : Str} {px : Pos} (ha : PM X Wx a fa) (hN : X.N.Nodup) (hlk : i ∉ lk := by decide) (hi : X.N[i]? = some x := by rfl) (hx : Loc X.env.scope x := by first | exact Or.inl rfl | exact Or.inr rfl) (hs : swapsWith a (some (.Name x px)) pos.line X.env = pure false := by rfl)
    (hf : X.fn x = true ∨ X.env.scope.names.lookup x = some .local := by first | exact .inl rfl | exact .inr rfl | assumption) : SD X Wx lk (.Assign [.Name x px] a pos) (sSet i fa) := by
  obtain ⟨t, p, k⟩ := ha.run
  exact SD.of ⟨_, ps_set hN hi hx p hs hf, fun W H σ e D sr h => k W H σ e _ sr (DK.st sr.wm h fun s v e1 W1 H1 sr1 x1 r h1 => put_st hlk sr1 r h1)⟩
/-- the name gets the new list for itself -/
@[simp] def putO (i : Nat) (s : S) (e : En) : Fl := if i < e.length then .nx (e.set i (some s)) else .stuck
@[simp] def sSetO (i : Nat) (fa : FM) : FS := fun e => (fa e).st (putO i)
theorem store_own {W W1 : List Addr} {H H1 : Hp} {σ0 σ : St} {e e1 : En} {K : PySem.W.Frag} {i : Nat} {s : S} {v : V} (wm : WM W H) (sr : SR W1 K H1 σ e1) (x : EX W H σ0 e W1 H1 σ e1) (r : RS W1 K H1 s v) (fr : s.own = true → ∀ a, v = .ref a → H a = none ∧ ¬ Ow σ e1 a) (hi : i < e1.length) :
    SR W1 K H1 (σ.set i (some v)) (e1.set i (some s)) ∧ EX W H σ0 e W1 H1 (σ.set i (some v)) (e1.set i (some s)) := by
  have hσ : i < σ.length := by rw [← sr.len]; exact hi
  cases s with
  | d y => exact ⟨sr.setD hσ r, x.trans ⟨fun _ _ q _ => q, fun _ _ _ n => n, fun a q n => ⟨q, fun z => n (z.setD hi)⟩, fun a z => .inl (z.setD hi), fun _ q => q⟩⟩
  | lst ys =>
    obtain ⟨a, us, rfl, q1, q2, q3⟩ := r
    obtain ⟨f1, f2⟩ := fr rfl a rfl
    have back : ∀ {j : Nat} {t : S} {b : Addr}, (e1.set i (some (S.lst ys)))[j]? = some (some t) → (σ.set i (some (V.ref a)))[j]? = some (some (.ref b)) → (i = j ∧ b = a) ∨ (i ≠ j ∧ e1[j]? = some (some t) ∧ σ[j]? = some (some (.ref b))) := by
      intro j t b q p
      by_cases z : i = j
      · subst z
        rw [List.getElem?_set_self hσ] at p
        cases p
        exact .inl ⟨rfl, rfl⟩
      · rw [List.getElem?_set_ne z] at q p
        exact .inr ⟨z, q, p⟩
    refine ⟨⟨sr.wm, by rw [List.length_set, List.length_set, sr.len], fun j t q => ?_, fun j k t t' b p1 p2 o1 o2 w1 w2 => ?_⟩, ⟨x.keep, x.frz, fun b hb n => ?_, fun b hb => ?_, x.dom⟩⟩
    · by_cases z : i = j
      · subst z
        rw [List.getElem?_set_self hi] at q
        cases q
        exact ⟨_, List.getElem?_set_self hσ, a, us, rfl, q1, q2, q3⟩
      · rw [List.getElem?_set_ne z] at q
        obtain ⟨v, h1, h2⟩ := sr.sl j t q
        exact ⟨v, by rw [List.getElem?_set_ne z]; exact h1, h2⟩
    · rcases back p1 w1 with ⟨rfl, rfl⟩ | ⟨z1, y1, y2⟩
      · rcases back p2 w2 with ⟨rfl, _⟩ | ⟨z2, y3, y4⟩
        · rfl
        · exact absurd ⟨k, t', y3, o2, y4⟩ f2
      · rcases back p2 w2 with ⟨rfl, rfl⟩ | ⟨z2, y3, y4⟩
        · exact absurd ⟨j, t, y1, o1, y2⟩ f2
        · exact sr.one j k t t' b y1 y3 o1 o2 y2 y4
    · obtain ⟨m1, m2⟩ := x.tmp b hb n
      refine ⟨m1, ?_⟩
      rintro ⟨j, t, w1, w2, w3⟩
      rcases back w1 w3 with ⟨rfl, rfl⟩ | ⟨_, y1, y2⟩
      · exact absurd f1 (isSome_of_mut (wm b hb))
      · exact m2 ⟨j, t, y1, w2, y2⟩
    · obtain ⟨j, t, w1, w2, w3⟩ := hb
      rcases back w1 w3 with ⟨rfl, rfl⟩ | ⟨_, y1, y2⟩
      · exact .inr f1
      · exact x.sub b ⟨j, t, y1, w2, y2⟩
theorem putO_st {W W1 : List Addr} {H H1 : Hp} {σ : St} {e e1 : En} {D0 : Ends} {i : Nat} {s : S} {v : V} (hlk : i ∉ lk) (wm : WM W H) (sr : SR W1 X.K H1 σ e1) (x : EX W H σ e W1 H1 σ e1) (r : RS W1 X.K H1 s v) (fr : s.own = true → ∀ a, v = .ref a → H a = none ∧ ¬ Ow σ e1 a)
    (h : FlK X.K X.mg Wx lk W H σ e D0 (putO i s e1)) : D0.nx (σ.set i (some v)) H1 := by
  unfold putO at h
  split at h
  rotate_left
  · exact h.elim
  rename_i hi
  obtain ⟨s2, x2⟩ := store_own wm sr x r fr hi
  exact h W1 H1 _ s2 x2 fun j hj => List.getElem?_set_ne fun (z : i = j) => hlk (by rw [z]; exact hj)
end
end DL

set_option maxHeartbeats 2000000
namespace DL
open PySem PySem.Spec PyProof.Rows L2

section
variable {W W' W1 W2 : List Addr} {K : PySem.W.Frag} {H H' H1 H2 : Hp} {σ σ1 σ' : St} {e e1 e' : En}
theorem Ex.trans (x : Ex W H W1 H1) (y : Ex W1 H1 W2 H2) : Ex W H W2 H2 := ⟨x.wm, fun a o h n => let q := x.keep a o h n; y.keep a o q.1 q.2⟩
/-- fewer are owned by name -/
theorem EX.shrink (s : ∀ a, Ow σ' e' a → Ow σ e a) : EX W H σ e W H σ' e' := ⟨fun _ _ h _ => h, fun _ _ _ n => n, fun a h n => ⟨h, fun z => n (s a z)⟩, fun a z => .inl (s a z), fun _ h => h⟩
theorem EX.updNew {a : Addr} {o : HO} (x : EX W H σ e W' H' σ' e') (n : H a = none) : EX W H σ e W' (upd H' a o) σ' e' :=
  ⟨fun b u h m => by rw [upd_ne (ne_of_none h n)]; exact x.keep b u h m, x.frz, x.tmp, x.sub, fun b h => by
    by_cases z : b = a
    · rw [z]; exact n
    · rw [upd_ne z] at h; exact x.dom b h⟩
/-- a list that no name owns gets other contents -/
theorem SR.updT {a : Addr} {us : List V} (r : SR W K H σ e) (hw : a ∈ W) (n : ¬ Ow σ e a) : SR W K (upd H a (.lst us)) σ e where
  wm := fun b h => by
    by_cases z : b = a
    · rw [z, upd_same]; trivial
    · rw [upd_ne z]; exact r.wm b h
  len := r.len
  sl := fun i s h => by
    have x : Ex W H W (upd H a (.lst us)) := ⟨r.wm, fun b o q m => ⟨by rw [upd_ne fun (z : b = a) => m (by rw [z]; exact hw)]; exact q, m⟩⟩
    obtain ⟨v, h1, h2⟩ := r.sl i s h
    refine ⟨v, h1, ?_⟩
    cases s with
    | d y => exact Rp.mono x y h2
    | lst ys =>
      obtain ⟨b, vs, rfl, q1, q2, q3⟩ := h2
      refine ⟨b, vs, rfl, q1, ?_, RpL.mono x ys q3⟩
      rw [upd_ne fun (z : b = a) => n ⟨i, _, h, rfl, by rw [h1, z]⟩]
      exact q2
  one := r.one
theorem Ow.wipe {vs : List Nat} {a : Addr} (o : Ow (L2.wipe σ vs) (wipeE e vs) a) : Ow σ e a := by
  obtain ⟨i, s, h1, h2, h3⟩ := o
  obtain ⟨q, n⟩ := wipeE_in h1
  rw [wipe_stay n] at h3
  exact ⟨i, s, q, h2, h3⟩
/-- behind a block: its names' slots stand as ahead -/
def unw (vs : List Nat) (e e' : En) : En := e'.mapIdx fun j o => if vs.contains j = true then (e[j]?).join else o
theorem unw_at {vs : List Nat} {e e' : En} {j : Nat} {s : S} (h : (unw vs e e')[j]? = some (some s)) : (j ∈ vs ∧ e[j]? = some (some s)) ∨ (j ∉ vs ∧ e'[j]? = some (some s)) := by
  unfold unw at h
  rw [List.getElem?_mapIdx] at h
  obtain ⟨o, h1, h2⟩ := Option.map_eq_some_iff.mp h
  split at h2
  · rename_i c
    refine .inl ⟨by simpa using c, ?_⟩
    cases q : e[j]? with
    | none => rw [q] at h2; cases h2
    | some u => rw [q] at h2; rw [show u = some s from h2]
  · rename_i c
    exact .inr ⟨by simpa using c, by rw [h1, h2]⟩
theorem unw_ok {vs : List Nat} {We : List Addr} {He : Hp} (r : SR W K H σ e) (g : Grow W H W1 H1) (rw1 : SR W1 K H1 (L2.wipe σ vs) (wipeE e vs)) (rE : SR We K He (L2.wipe σ vs) e') (x : EX W1 H1 (L2.wipe σ vs) (wipeE e vs) We He (L2.wipe σ vs) e') :
    SR We K He σ (unw vs e e') ∧ EX W H σ e We He σ (unw vs e e') ∧ ∀ a, Ow σ (unw vs e e') a → Ow σ e a ∨ Ow (L2.wipe σ vs) e' a := by
  have ex : Ex W H We He := (g.ex r.wm).trans (x.ex rw1)
  have up : ∀ {j : Nat} {s : S} {a : Addr}, j ∉ vs → e'[j]? = some (some s) → s.own = true → σ[j]? = some (some (.ref a)) → Ow (L2.wipe σ vs) e' a := fun {j s a} n h o p => ⟨j, s, h, o, by rw [wipe_stay n]; exact p⟩
  have spl : ∀ a, Ow σ (unw vs e e') a → Ow σ e a ∨ Ow (L2.wipe σ vs) e' a := by
    rintro a ⟨j, s, h1, h2, h3⟩
    rcases unw_at h1 with ⟨_, q⟩ | ⟨n, q⟩
    · exact .inl ⟨j, s, q, h2, h3⟩
    · exact .inr (up n q h2 h3)
  -- an address held by a name of the block's
  have nb : ∀ {j : Nat} {s : S} {a : Addr}, j ∈ vs → e[j]? = some (some s) → s.own = true → σ[j]? = some (some (.ref a)) → ¬ Ow (L2.wipe σ vs) (wipeE e vs) a := by
    rintro j s a hj h o p ⟨k, t, q1, q2, q3⟩
    obtain ⟨w1, w2⟩ := wipeE_in q1
    rw [wipe_stay w2] at q3
    have := r.one j k s t a h w1 o q2 p q3
    subst this
    exact w2 hj
  have nb2 : ∀ {j : Nat} {s : S} {a : Addr}, j ∈ vs → e[j]? = some (some s) → s.own = true → σ[j]? = some (some (.ref a)) → ¬ Ow (L2.wipe σ vs) e' a := by
    intro j s a hj h o p z
    rcases x.sub a z with w | w
    · exact nb hj h o p w
    · obtain ⟨ys, es⟩ := own_lst o
      obtain ⟨b, us, q1, q2, q3, _⟩ := r.hit (xs := ys) (by rw [h, es])
      rw [p] at q1
      cases q1
      rw [g.keep _ _ q3] at w
      cases w
  refine ⟨⟨rE.wm, ?_, fun j s h => ?_, fun j k s t a h1 h2 o1 o2 p1 p2 => ?_⟩, ⟨fun a o h n => x.keep a o (g.keep a o h) fun z => n z.wipe, fun a o h n => (ex.keep a o h n).2, fun a h n => ?_, fun a h => ?_, fun a h => g.fresh (x.dom a h)⟩, spl⟩
  · unfold unw
    rw [List.length_mapIdx, rE.len, wipe_length]
  · rcases unw_at h with ⟨hj, q⟩ | ⟨n, q⟩
    · obtain ⟨v, h1, h2⟩ := r.sl j s q
      refine ⟨v, h1, ?_⟩
      cases s with
      | d y => exact Rp.mono ex y h2
      | lst ys =>
        obtain ⟨a, us, rfl, p1, p2, p3⟩ := h2
        have na := nb hj q rfl h1
        exact ⟨a, us, rfl, (x.tmp a (g.sub a p1) na).1, x.keep a _ (g.keep a _ p2) na, RpL.mono ex ys p3⟩
    · obtain ⟨v, h1, h2⟩ := rE.sl j s q
      rw [wipe_stay n] at h1
      exact ⟨v, h1, h2⟩
  · rcases unw_at h1 with ⟨hj, q⟩ | ⟨n, q⟩
    · rcases unw_at h2 with ⟨hk, q'⟩ | ⟨n', q'⟩
      · exact r.one j k s t a q q' o1 o2 p1 p2
      · exact absurd (up n' q' o2 p2) (nb2 hj q o1 p1)
    · rcases unw_at h2 with ⟨hk, q'⟩ | ⟨n', q'⟩
      · exact absurd (up n q o1 p1) (nb2 hk q' o2 p2)
      · exact rE.one j k s t a q q' o1 o2 (by rw [wipe_stay n]; exact p1) (by rw [wipe_stay n']; exact p2)
  · obtain ⟨h1, h2⟩ := x.tmp a (g.sub a h) fun z => n z.wipe
    exact ⟨h1, fun z => (spl a z).elim n h2⟩
  · rcases spl a h with z | z
    · exact .inl z
    · rcases x.sub a z with w | w
      · exact .inl w.wipe
      · exact .inr (g.fresh w)
end

/-! ## list comprehensions whose parts have effects -/
def noW : WX := fun _ _ _ _ => False
@[simp] def lcM (bind : FG) (ft : FT) (fe : FM) (vs : List Nat) : List D → En → OL
  | [], e => .ok [] e
  | d :: ds, e => match bind d e with
    | none => .stuck
    | some e1 => match ft e1 with
      | none => .stuck
      | some b => if b = true then (match fe e1 with
        | .ok s e2 => OL.cons s.view (lcM bind ft fe vs ds (wipeE e2 vs))
        | _ => .stuck) else lcM bind ft fe vs ds (wipeE e1 vs)
@[simp] def mLc (vs : List Nat) (fi : FI) (bind : FG) (ft : FT) (fe : FM) : FM := fun e => match fi e with
  | some (ds, true) => (match lcM bind ft fe vs ds (wipeE e vs) with
    | .ok xs e' => if xs.length ≤ SZ then .ok (.lst xs) (unw vs e e') else .stuck
    | _ => .stuck)
  | _ => .stuck
structure LmAt (K : PySem.W.Frag) (W' : List Addr) (H1 : Hp) (D0 : Addr) (bind : FG) (ft : FT) (fe : FM) (vs : List Nat) (σw : St) (ew : En) (ds xs : List D) (eE : En) (i : Nat) (H : Hp) (W2 : List Addr) (e2 : En) (dn rest : List D) (acc : List V) : Prop where
  sr : SR W2 K H σw e2
  x : EX W' H1 σw ew W2 H σw e2
  dm : D0 ∈ W2
  no : ¬ Ow σw e2 D0
  at_ : H D0 = some (.lst acc)
  rp : RpL W2 K H dn acc
  todo : lcM bind ft fe vs (ds.drop i) e2 = .ok rest eE
  all : dn ++ rest = xs
theorem lm_read {K : PySem.W.Frag} {mg : Str → Option Value} {W W' : List Addr} {H H1 : Hp} {σ : St} {e eE : En} {J : It} {ds xs : List D} {vs : List Nat} {bind : FG} {ft : FT} {fe : FM} {Q : VK} {D0 : Addr} (sr : SR W K H σ e) (g1 : Grow W H W' H1) (hn : H1 D0 = none)
    (it : ∀ W2 H2, Ex W' H1 W2 H2 → WM W2 H2 → ItAt tg W2 K H2 J ds) (hx : lcM bind ft fe vs ds (wipeE e vs) = .ok xs eE) (hz : xs.length ≤ SZ)
    (k : ∀ W2 H2 acc, SR W2 K H2 (wipe σ vs) eE → EX W' H1 (wipe σ vs) (wipeE e vs) W2 H2 (wipe σ vs) eE → D0 ∈ W2 → ¬ Ow (wipe σ vs) eE D0 → H2 D0 = some (.lst acc) → RpL W2 K H2 xs acc → Q (.ref D0) H2) :
    ∃ Wi : Nat → Nat → Hp → Prop, (∃ m, Wi 0 m (upd H1 D0 (.lst []))) ∧ ∀ i m H, Wi i m H →
      (J.stop i H ∧ Q (.ref D0) H) ∨ (J.go i H ∧ ∃ Nx : Hp → Prop, (∀ H', Nx H' → ∃ m', m' < m ∧ Wi (i + 1) m' H') ∧ ∀ x H', J.yld i H x H' → tG tg K vs bind x (wipe σ vs) H' fun σ2 H2 => wipe σ2 vs = wipe σ vs ∧ tT K ft σ2 H2 fun b H3 =>
        if b = true then tM K mg noW fe σ2 H3 fun y H4 => ∃ acc, H4 D0 = some (.lst acc) ∧ acc.length < sizeLine ∧ Nx (upd H4 D0 (.lst (acc ++ [y]))) else Nx H3) := by
  have srw : SR W' K H1 (wipe σ vs) (wipeE e vs) := g1.sr (sr.wipe vs)
  have g0 : Grow W' H1 (D0 :: W') (upd H1 D0 (.lst [])) := .lst g1.wm hn
  refine ⟨fun i m H => m = ds.length - i ∧ i ≤ ds.length ∧ ∃ W2 e2 dn rest acc, LmAt K W' H1 D0 bind ft fe vs (wipe σ vs) (wipeE e vs) ds xs eE i H W2 e2 dn rest acc, ⟨ds.length, rfl, Nat.zero_le _, D0 :: W', wipeE e vs, [], xs, [], ?_⟩, ?_⟩
  · exact ⟨g0.sr srw, g0.fx srw, List.mem_cons_self, fun z => srw.thr (srw.ow z) hn, upd_same, rfl, hx, rfl⟩
  · rintro i m H2 ⟨rfl, hi, W2, e2, dn, rest, acc, L⟩
    have I2 := it W2 H2 (L.x.ex srw) L.sr.wm
    by_cases hlt : i < ds.length
    · refine .inr ?_
      obtain ⟨d, hd⟩ : ∃ d, ds[i]? = some d := ⟨ds[i], List.getElem?_eq_getElem hlt⟩
      obtain ⟨hgo, hy⟩ := I2.1 i d hd
      refine ⟨hgo, fun H' => ∃ W2 e2 dn rest acc, LmAt K W' H1 D0 bind ft fe vs (wipe σ vs) (wipeE e vs) ds xs eE (i + 1) H' W2 e2 dn rest acc, fun H' q => ⟨ds.length - (i + 1), by omega, rfl, hlt, q⟩, fun x H3 y => ?_⟩
      obtain ⟨kp, rp⟩ := hy x H3 y
      have todo := L.todo
      have ed : ds.drop i = d :: ds.drop (i + 1) := by
        rw [List.drop_eq_getElem_cons hlt]
        rw [List.getElem?_eq_getElem hlt] at hd
        cases hd
        rfl
      rw [ed] at todo
      unfold lcM at todo
      split at todo
      · cases todo
      rename_i e1 he1
      split at todo
      · cases todo
      rename_i b hb
      have g3 : Grow W2 H2 W2 H3 := .of L.sr.wm kp
      refine ⟨W2, e2, d, e1, g3.sr L.sr, rp, he1, fun σ1 sr1 l1 a1 o1 => ?_⟩
      have ew := wipe_same (l1.trans (wipe_length σ vs)) a1
      refine ⟨ew, W2, e1, b, sr1, hb, fun W4 H4 g4 => ?_⟩
      have x3 : EX W' H1 (wipe σ vs) (wipeE e vs) W4 H4 σ1 e1 := ((L.x.trans (g3.fx L.sr)).trans (EX.shrink o1)).trans (g4.fx sr1)
      have sr4 := g4.sr sr1
      have g34 := g3.trans g4
      have dm4 := g34.sub _ L.dm
      have no4 : ¬ Ow σ1 e1 D0 := fun z => L.no (o1 _ z)
      have at4 := g34.keep _ _ L.at_
      have rp4 := RpL.mono (g34.ex L.sr.wm) _ L.rp
      cases b with
      | false =>
        refine iteF ⟨W4, wipeE e1 vs, dn, rest, acc, ⟨by rw [← ew]; exact sr4.wipe vs, ?_, dm4, fun z => no4 (by rw [← ew] at z; exact z.wipe), at4, rp4, todo, L.all⟩⟩
        exact x3.trans (EX.shrink fun a z => by rw [← ew] at z; exact z.wipe)
      | true =>
        refine iteT ?_
        have todo : (match fe e1 with | .ok s e2 => OL.cons s.view (lcM bind ft fe vs (ds.drop (i + 1)) (wipeE e2 vs)) | _ => OL.stuck) = .ok rest eE := todo
        split at todo
        rotate_left
        · cases todo
        rename_i s e5 hfe
        refine ⟨W4, e1, sr4, ?_⟩
        rw [hfe]
        refine DK.out sr4.wm fun yv W5 H5 sr5 x5 ry => ?_
        have dm5 := x5.tmp _ dm4 no4
        have at5 := x5.keep _ _ at4 no4
        have rp5 := RpL.mono (x5.ex sr4) _ rp4
        cases ho : lcM bind ft fe vs (ds.drop (i + 1)) (wipeE e5 vs) with
        | stuck => rw [ho] at todo; cases todo
        | ex x e => rw [ho] at todo; cases todo
        | ok rest' eE' =>
          rw [ho] at todo
          cases todo
          have no6 : ¬ Ow (wipe σ vs) (wipeE e5 vs) D0 := fun z => dm5.2 (by rw [← ew] at z; exact z.wipe)
          have sr6 : SR W5 K H5 (wipe σ vs) (wipeE e5 vs) := by rw [← ew]; exact sr5.wipe vs
          have x6 : EX W' H1 (wipe σ vs) (wipeE e vs) W5 H5 (wipe σ vs) (wipeE e5 vs) := (x3.trans x5).trans (EX.shrink fun a z => by rw [← ew] at z; exact z.wipe)
          have exu : Ex W5 H5 W5 (upd H5 D0 (.lst (acc ++ [yv]))) := ⟨sr5.wm, fun a o h n => ⟨by rw [upd_ne fun (q : a = D0) => n (by rw [q]; exact dm5.1)]; exact h, n⟩⟩
          refine ⟨acc, at5, ?_, W5, wipeE e5 vs, dn ++ [s.view], rest', acc ++ [yv], ⟨sr6.updT dm5.1 no6, x6.updNew hn, dm5.1, no6, upd_same, RpL.mono exu _ (rp5.append (.one ry)), ho, by rw [List.append_assoc]; exact L.all⟩⟩
          have q := congrArg List.length L.all
          rw [List.length_append, List.length_cons] at q
          have q3 := L.rp.length
          rw [SZ_eq]
          omega
    · have ei : i = ds.length := by omega
      subst ei
      refine .inl ⟨I2.2, ?_⟩
      have todo := L.todo
      rw [List.drop_length] at todo
      cases todo
      have ea := L.all
      rw [List.append_nil] at ea
      subst ea
      exact k W2 H2 acc L.sr L.x L.dm L.no L.at_ L.rp
section
variable {X : Cx} {Wx : WX}
theorem lm_fin {vs : List Nat} {fi : FI} {bind : FG} {ft : FT} {fe : FM} {W : List Addr} {H : Hp} {σ : St} {e : En} {Q : VK} (sr : SR W X.K H σ e) (h : OutK X.K X.mg Wx W H σ e Q (mLc vs fi bind ft fe e)) :
    tLc (tI tg X.K fi) (tG tg X.K vs bind) (tT X.K ft) (tM X.K X.mg noW fe) vs σ H Q := by
  unfold mLc at h
  split at h
  rotate_left
  · exact h.elim
  rename_i ds hi
  split at h
  rotate_left
  · exact h.elim
  rename_i xs eE hl
  split at h
  rotate_left
  · exact h.elim
  rename_i hz
  refine ⟨W, e, ds, true, sr, hi, fun J W' H1 g1 it D0 hn => lm_read sr g1 hn (fun W2 H2 x wm => it W2 H2 (.inr ⟨rfl, x, wm⟩)) hl hz fun W2 H2 acc s2 x2 dm no at_ rp => ?_⟩
  obtain ⟨s3, x3, ow⟩ := unw_ok sr g1 (g1.sr (sr.wipe vs)) s2 x2
  refine h _ W2 H2 s3 x3 ⟨D0, acc, rfl, dm, at_, rp⟩ fun _ a ea => ?_
  cases ea
  exact ⟨g1.fresh hn, fun z => (ow _ z).elim (fun w => sr.thr (sr.ow w) (g1.fresh hn)) no⟩
theorem pm_lc {elt tg iter : Expr} {ifs : List Expr} {scope : Scope} {own : List (Str × Nat)} {pos : Pos} {fi : FI} {bind : FG} {ft : FT} {fe : FM} (hc : X.calm = true) (hN : X.N.Nodup) (hi : IP X tg iter fi) (ok : BlkOk X.N X.env.scope scope own)
    (hg : ∀ (s : Shared) (H : Hp) (C : Addr) (cl : List (Str × Addr)) (fp : List Addr), GP (X.blk s H scope (compEnvC scope cl C X.env) fp) tg (own.map (·.2)) bind)
    (ht : ∀ (s : Shared) (H : Hp) (C : Addr) (cl : List (Str × Addr)) (fp : List Addr), TPs (X.blk s H scope (compEnvC scope cl C X.env) fp) ifs ft)
    (he : ∀ (s : Shared) (H : Hp) (C : Addr) (cl : List (Str × Addr)) (fp : List Addr), PM (X.blk s H scope (compEnvC scope cl C X.env) fp) noW elt fe)
    (hs : ∀ x, foldedSetIterable iter X.env x = pure x := by intro _; rfl) : PM X Wx (.ListComp elt [⟨tg, iter, ifs, 0⟩] scope pos) (mLc (own.map (·.2)) fi bind ft fe) :=
  PM.of ⟨_, pe_lc (g := tG tg X.K (own.map (·.2)) bind) (tt := tT X.K ft) (te := tM X.K X.mg noW fe) hc hN hi.pi ok (fun s H C cl fp => (hg s H C cl fp).pg) (fun s H C cl fp => (ht s H C cl fp).pts) (fun s H C cl fp => (he s H C cl fp).pe) hs, fun W H σ e Q sr h => lm_fin sr h⟩
/-- name = [..] on one line -/
theorem sd_setLc {lk : List Nat} (i : Nat) {y : Str} {py : Pos} {elt tg iter : Expr} {ifs : List Expr} {scope : Scope} {own : List (Str × Nat)} {pos spos : Pos} {fi : FI} {bind : FG} {ft : FT} {fe : FP} (hc : X.calm = true) (hN : X.N.Nodup)
    (hsw : swapsWith (.ListComp elt [⟨tg, iter, ifs, 0⟩] scope pos) (some (.Name y py)) spos.line X.env = pure true) (hi : IP X tg iter fi) (ok : BlkOk X.N X.env.scope scope own)
    (hg : ∀ (s : Shared) (H : Hp) (C : Addr) (cl : List (Str × Addr)) (fp : List Addr), GP (X.blk s H scope (compEnvC scope cl C X.env) fp) tg (own.map (·.2)) bind)
    (ht : ∀ (s : Shared) (H : Hp) (C : Addr) (cl : List (Str × Addr)) (fp : List Addr), TPs (X.blk s H scope (compEnvC scope cl C X.env) fp) ifs ft)
    (he : ∀ (s : Shared) (H : Hp) (C : Addr) (cl : List (Str × Addr)) (fp : List Addr), PP (X.blk s H scope (compEnvC scope cl C X.env) fp) elt fe)
    (hlk : i ∉ lk := by decide) (hy : X.N[i]? = some y := by rfl) (hyl : X.env.scope.names.lookup y = some .local := by rfl)
    (hs : ∀ x, foldedSetIterable iter X.env x = pure x := by intro _; rfl) : SD X Wx lk (.Assign [.Name y py] (.ListComp elt [⟨tg, iter, ifs, 0⟩] scope pos) spos) (sSet i (mPP (pLc (own.map (·.2)) fi bind ft fe))) := by
  refine SD.of ⟨_, ps_setLc (g := tG tg X.K (own.map (·.2)) bind) (tt := tT X.K ft) (te := tP X.K fe) hc hN hy hyl hsw hi.pi ok (fun s H C cl fp => (hg s H C cl fp).pg) (fun s H C cl fp => (ht s H C cl fp).pts) (fun s H C cl fp => (he s H C cl fp).pe) hs, fun W H σ e D sr h => ?_⟩
  have h2 := DK.st (Q0 := fun v H' => D.nx (σ.set i (some v)) H') sr.wm h fun s v e1 W1 H1 sr1 x1 r h1 => put_st hlk sr1 r h1
  obtain ⟨r, er, kq⟩ := OutK.rvo sr h2
  obtain ⟨⟨ds, bb⟩, e1, hf⟩ := Option.bind_eq_some_iff.mp er
  obtain ⟨xs, e2, hf⟩ := Option.bind_eq_some_iff.mp hf
  split at hf
  · rename_i hz
    cases hf
    exact ⟨W, e, ds, bb, sr, e1, fun J W' H1 g1 it D0 hn => lc_read (Q := fun v H' => D.nx (σ.set i (some v)) H') sr g1 hn (fun W2 H2 g => it W2 H2 (.inl g)) e2 hz kq⟩
  · cases hf
theorem sd_setLm {lk : List Nat} (i : Nat) {y : Str} {py : Pos} {elt tg iter : Expr} {ifs : List Expr} {scope : Scope} {own : List (Str × Nat)} {pos spos : Pos} {fi : FI} {bind : FG} {ft : FT} {fe : FM} (hc : X.calm = true) (hN : X.N.Nodup)
    (hsw : swapsWith (.ListComp elt [⟨tg, iter, ifs, 0⟩] scope pos) (some (.Name y py)) spos.line X.env = pure true) (hi : IP X tg iter fi) (ok : BlkOk X.N X.env.scope scope own)
    (hg : ∀ (s : Shared) (H : Hp) (C : Addr) (cl : List (Str × Addr)) (fp : List Addr), GP (X.blk s H scope (compEnvC scope cl C X.env) fp) tg (own.map (·.2)) bind)
    (ht : ∀ (s : Shared) (H : Hp) (C : Addr) (cl : List (Str × Addr)) (fp : List Addr), TPs (X.blk s H scope (compEnvC scope cl C X.env) fp) ifs ft)
    (he : ∀ (s : Shared) (H : Hp) (C : Addr) (cl : List (Str × Addr)) (fp : List Addr), PM (X.blk s H scope (compEnvC scope cl C X.env) fp) noW elt fe)
    (hlk : i ∉ lk := by decide) (hy : X.N[i]? = some y := by rfl) (hyl : X.env.scope.names.lookup y = some .local := by rfl)
    (hs : ∀ x, foldedSetIterable iter X.env x = pure x := by intro _; rfl) : SD X Wx lk (.Assign [.Name y py] (.ListComp elt [⟨tg, iter, ifs, 0⟩] scope pos) spos) (sSet i (mLc (own.map (·.2)) fi bind ft fe)) := by
  refine SD.of ⟨_, ps_setLc (g := tG tg X.K (own.map (·.2)) bind) (tt := tT X.K ft) (te := tM X.K X.mg noW fe) hc hN hy hyl hsw hi.pi ok (fun s H C cl fp => (hg s H C cl fp).pg) (fun s H C cl fp => (ht s H C cl fp).pts) (fun s H C cl fp => (he s H C cl fp).pe) hs, fun W H σ e D sr h => ?_⟩
  exact lm_fin (Wx := Wx) sr (DK.st (Q0 := fun v H' => D.nx (σ.set i (some v)) H') sr.wm h fun s v e1 W1 H1 sr1 x1 r h1 => put_st hlk sr1 r h1)
end
end DL

set_option maxHeartbeats 2000000
namespace DL
open PySem PySem.Spec PyProof.Rows L2

section
variable {X : Cx} {Wx : WX} {lk : List Nat} {a b c : Expr} {fa fb : FM} {stm : Stmt} {rest sts sts2 : List Stmt} {f g : FS} {pos : Pos}
theorem sd_setO (i : Nat) {x : Str} {px : Pos} (ha : PM X Wx a fa) (hN : X.N.Nodup) (hlk : i ∉ lk := by decide) (hi : X.N[i]? = some x := by rfl) (hx : Loc X.env.scope x := by first | exact Or.inl rfl | exact Or.inr rfl) (hs : swapsWith a (some (.Name x px)) pos.line X.env = pure false := by rfl)
    (hf : X.fn x = true ∨ X.env.scope.names.lookup x = some .local := by first | exact .inl rfl | exact .inr rfl | assumption) : SD X Wx lk (.Assign [.Name x px] a pos) (sSetO i fa) := by
  obtain ⟨t, p, k⟩ := ha.run
  exact SD.of ⟨_, ps_set hN hi hx p hs hf, fun W H σ e D sr h => k W H σ e _ sr (OutK.st h fun s v e1 W1 H1 sr1 x1 r fr h1 => putO_st hlk sr.wm sr1 x1 r fr h1)⟩
/-! ### return -/
@[simp] def sRet (fa : FM) : FS := fun e => (fa e).st fun s e1 => .rt s e1
theorem sd_ret (ha : PM X Wx a fa) : SD X Wx lk (.Return (some a) pos) (sRet fa) := by
  obtain ⟨t, p, k⟩ := ha.run
  refine SD.of ⟨_, ps_ret p, fun W H σ e D sr h => k W H σ e _ sr (OutK.st h fun s v e1 W1 H1 sr1 x1 r fr h1 => ?_)⟩
  exact h1 v W1 H1 σ sr1 x1 (fun _ _ => rfl) r fun so a ea => ⟨(fr so a ea).2, .inr (fr so a ea).1⟩
@[simp] def sRetN : FS := fun e => .rt (.d .non) e
theorem sd_retN : SD X Wx lk (.Return none pos) sRetN := SD.of ⟨_, ps_retN, fun W H σ e D sr h => h .non W H σ sr .refl (fun _ _ => rfl) rfl fun z => nomatch z⟩
/-- return name: the list goes to the caller -/
@[simp] def sRetMv (i : Nat) : FS := fun e => match e[i]? with
  | some (some s) => .rt s (e.set i none)
  | _ => .stuck
theorem sd_retMv (i : Nat) {x : Str} {px : Pos} (hN : X.N[i]? = some x := by rfl) (hv : Vis X.env.scope x := by first | exact Or.inl rfl | exact Or.inr (Or.inl rfl) | exact Or.inr (Or.inr rfl)) (hd : (x == ("__debug__" : Str)) = false := by decide)
    (hcd : (x == ("__classdict__" : Str)) = false := by decide) : SD X Wx lk (.Return (some (.Name x px)) pos) (sRetMv i) := by
  refine SD.of ⟨_, ps_ret (pe_var hN hv hd hcd), fun W H σ e D sr h => ?_⟩
  unfold sRetMv at h
  split at h
  rotate_left
  · exact h.elim
  rename_i s hs
  obtain ⟨v, h1, h2⟩ := sr.sl i s hs
  have hl : i < e.length := (List.getElem?_eq_some_iff.mp hs).1
  have back : ∀ {j : Nat} {t : S}, (e.set i none)[j]? = some (some t) → i ≠ j ∧ e[j]? = some (some t) := by
    intro j t q
    by_cases z : i = j
    · subst z
      rw [List.getElem?_set_self hl] at q
      cases q
    · rw [List.getElem?_set_ne z] at q
      exact ⟨z, q⟩
  have ow : ∀ a, Ow σ (e.set i none) a → Ow σ e a := fun a ⟨j, t, q1, q2, q3⟩ => ⟨j, t, (back q1).2, q2, q3⟩
  refine ⟨v, h1, h v W H σ ⟨sr.wm, by rw [List.length_set, sr.len], fun j t q => sr.sl j t (back q).2, fun j k t t' a q1 q2 => sr.one j k t t' a (back q1).2 (back q2).2⟩ (EX.shrink ow) (fun _ _ => rfl) h2 fun so a ea => ?_⟩
  subst ea
  refine ⟨fun ⟨j, t, q1, q2, q3⟩ => (back q1).1 (sr.one i j s t a hs (back q1).2 so q2 h1 q3), .inl ⟨i, s, hs, so, h1⟩⟩
/-! ### tests with effects; if -/
def BK (K : PySem.W.Frag) (mg : Str → Option Value) (Wx : WX) (W : List Addr) (H : Hp) (σ : St) (e : En) (Q : Bool → Hp → Prop) : Out → Prop
  | .stuck => False
  | .ok s e' => ∃ b, s = .d (.bl b) ∧ ∀ W' H', SR W' K H' σ e' → EX W H σ e W' H' σ e' → Q b H'
  | .ex x e' => ∀ cls d W' H', SR W' K H' σ e' → EX W H σ e W' H' σ e' → XR mg W' K H' x cls d → Wx cls d σ H'
structure TM (X : Cx) (Wx : WX) (ex : Expr) (f : FM) : Prop where
  run : ∃ t : TT, PT X ex t ∧ ∀ (W : List Addr) (H : Hp) (σ : St) (e : En) (Q : Bool → Hp → Prop), SR W X.K H σ e → BK X.K X.mg Wx W H σ e Q (f e) → t σ H Q
@[simp] def tMT (ft : FT) : FM := fun e => match ft e with
  | some b => .ok (.d (.bl b)) e
  | none => .stuck
theorem tm_tp {ft : FT} (h : TP X a ft) : TM X Wx a (tMT ft) := by
  obtain ⟨t, p, k⟩ := h.run
  refine ⟨t, p, fun W H σ e Q sr h => ?_⟩
  unfold tMT at h
  split at h
  · rename_i b hb
    obtain ⟨b', e1, h⟩ := h
    cases e1
    exact k W H σ e Q b sr hb fun W' H' g => h W' H' (g.sr sr) (g.fx sr)
  · exact h.elim
theorem tm_val (ha : PM X Wx a fa) (he : ∀ whole, isTrue a X.env whole = (do let v ← whole; standAt a.pos; holding [v] (truthy v)) := by intro _; rfl) : TM X Wx a fa := by
  obtain ⟨t, p, k⟩ := ha.run
  refine ⟨_, pt_val p he, fun W H σ e Q sr h => k W H σ e _ sr ?_⟩
  revert h
  generalize fa e = o
  intro h
  cases o with
  | stuck => exact h
  | ex x e1 => exact h
  | ok s e1 =>
    obtain ⟨b, rfl, h⟩ := h
    exact fun v W' H' sr' x r _ => ⟨b, r, h W' H' sr' x⟩
theorem tm_cmp {op : CmpOp} {g : D → D → Option RV} (ho : Op2 X (compareOp op) g) (ha : PM X Wx a fa) (hb : PM X Wx b fb) (hm : behindInMarks op b = false := by first | exact nomark _ | with_unfolding_all rfl) : TM X Wx (.Compare a [op] [b] pos) (m2 g fa fb) := by
  obtain ⟨rl, h1, h2⟩ := ho.run
  obtain ⟨ta, pa, ka⟩ := ha.run
  obtain ⟨tb, pb, kb⟩ := hb.run
  refine ⟨_, pt_cmpR h1 pa pb hm, fun W H σ e Q sr h => ?_⟩
  have h' : OutK X.K X.mg Wx W H σ e (fun v H' => ∃ b, v = .bl b ∧ Q b H') (m2 g fa fb e) := by
    revert h
    generalize m2 g fa fb e = o
    intro h
    cases o with
    | stuck => exact h
    | ex x e1 => exact h
    | ok s e1 =>
      obtain ⟨b, rfl, h⟩ := h
      exact fun v W' H' sr' x r _ => ⟨b, r, h W' H' sr' x⟩
  refine ka W H σ e _ sr (DK.bind sr.wm h' fun d v e1 W1 H1 sr1 x1 r1 h1' => kb W1 H1 σ e1 _ sr1 (DK.bind sr1.wm h1' fun d2 u e2 W2 H2 sr2 x2 r2 h2' => ?_))
  obtain ⟨r, er, kq⟩ := OutK.rvo sr2 h2'
  exact h2 W2 H2 v u d d2 r _ sr2.wm (.of (Rp.mono (x2.ex sr1) d r1)) (.of r2) er kq
theorem BK.go {W W1 : List Addr} {K : PySem.W.Frag} {mg : Str → Option Value} {H H1 : Hp} {σ : St} {e e1 : En} {Q : Bool → Hp → Prop} (x : EX W H σ e W1 H1 σ e1) : ∀ {o : Out}, BK K mg Wx W H σ e Q o → BK K mg Wx W1 H1 σ e1 Q o
  | .stuck, h => h
  | .ok s e', ⟨b, eb, h⟩ => ⟨b, eb, fun W' H' sr y => h W' H' sr (x.trans y)⟩
  | .ex z e', h => fun c d W' H' sr y r => h c d W' H' sr (x.trans y) r
structure WM' (X : Cx) (Wx : WX) (ex : Expr) (f : FM) : Prop where
  run : ∃ t : TT, PW X ex t ∧ ∀ (W : List Addr) (H : Hp) (σ : St) (e : En) (Q : Bool → Hp → Prop), SR W X.K H σ e → BK X.K X.mg Wx W H σ e Q (f e) → t σ H Q
theorem WM'.tm {ex : Expr} {f : FM} (h : WM' X Wx ex f) : TM X Wx ex f := let ⟨t, p, k⟩ := h.run; ⟨t, p.pt, k⟩
theorem wm_and1 (ha : TM X Wx a fa) : WM' X Wx (.BoolOp .And [a] pos) fa := let ⟨t, p, k⟩ := ha.run; ⟨t, pw_and1 p, k⟩
theorem wm_or1 (ha : TM X Wx a fa) : WM' X Wx (.BoolOp .Or [a] pos) fa := let ⟨t, p, k⟩ := ha.run; ⟨t, pw_or1 p, k⟩
@[simp] def tmNext (fa : FM) (f : Bool → FM) : FM := fun e => match fa e with
  | .ok (.d (.bl b)) e1 => f b e1
  | .ex x e1 => .ex x e1
  | _ => .stuck
theorem BK.next {W : List Addr} {H : Hp} {σ : St} {e : En} {Q : Bool → Hp → Prop} {Q0 : Bool → Hp → Prop} {f : Bool → FM} (h : BK X.K X.mg Wx W H σ e Q (tmNext fa f e))
    (k : ∀ b e1 W1 H1, SR W1 X.K H1 σ e1 → BK X.K X.mg Wx W1 H1 σ e1 Q (f b e1) → Q0 b H1) : BK X.K X.mg Wx W H σ e Q0 (fa e) := by
  unfold tmNext at h
  revert h
  generalize fa e = o
  intro h
  cases o with
  | stuck => exact h
  | ex x e1 => exact h
  | ok s e1 =>
    cases s with
    | lst xs => exact h.elim
    | d y =>
      cases y with
      | bl b => exact ⟨b, rfl, fun W1 H1 sr1 x1 => k b e1 W1 H1 sr1 (BK.go (o := f b e1) x1 h)⟩
      | _ => exact h.elim
@[simp] def tmAnd (fa fb : FM) : FM := tmNext fa fun b e1 => if b = true then fb e1 else .ok (.d (.bl false)) e1
@[simp] def tmOr (fa fb : FM) : FM := tmNext fa fun b e1 => if b = true then .ok (.d (.bl true)) e1 else fb e1
@[simp] def tmNot (fa : FM) : FM := tmNext fa fun b e1 => .ok (.d (.bl (!b))) e1
theorem BK.tf {W : List Addr} {K : PySem.W.Frag} {mg : Str → Option Value} {H : Hp} {σ : St} {e : En} {Q : Bool → Hp → Prop} {b : Bool} (sr : SR W K H σ e) (h : BK K mg Wx W H σ e Q (.ok (.d (.bl b)) e)) : Q b H := by
  obtain ⟨b', e1, h⟩ := h
  cases e1
  exact h W H sr .refl
theorem wm_and {tl : List Expr} (ha : TM X Wx a fa) (hb : WM' X Wx (.BoolOp .And (b :: tl) pos) fb) : WM' X Wx (.BoolOp .And (a :: b :: tl) pos) (tmAnd fa fb) := by
  obtain ⟨t, p, ka⟩ := ha.run
  obtain ⟨u, p', kb⟩ := hb.run
  refine ⟨_, pw_and p p', fun W H σ e Q sr h => ka W H σ e _ sr (BK.next h fun q e1 W1 H1 sr1 h1 => ?_)⟩
  cases q with
  | true => exact kb W1 H1 σ e1 Q sr1 h1
  | false => exact BK.tf sr1 h1
theorem wm_or {tl : List Expr} (ha : TM X Wx a fa) (hb : WM' X Wx (.BoolOp .Or (b :: tl) pos) fb) : WM' X Wx (.BoolOp .Or (a :: b :: tl) pos) (tmOr fa fb) := by
  obtain ⟨t, p, ka⟩ := ha.run
  obtain ⟨u, p', kb⟩ := hb.run
  refine ⟨_, pw_or p p', fun W H σ e Q sr h => ka W H σ e _ sr (BK.next h fun q e1 W1 H1 sr1 h1 => ?_)⟩
  cases q with
  | false => exact kb W1 H1 σ e1 Q sr1 h1
  | true => exact BK.tf sr1 h1
theorem tm_not (ha : TM X Wx a fa) : TM X Wx (.UnaryOp .Not a pos) (tmNot fa) := by
  obtain ⟨t, p, ka⟩ := ha.run
  exact ⟨_, pt_not p, fun W H σ e Q sr h => ka W H σ e _ sr (BK.next h fun q e1 W1 H1 sr1 h1 => BK.tf sr1 h1)⟩
@[simp] def sIf (fc : FM) (f g : FS) : FS := fun e => match fc e with
  | .ok (.d (.bl b)) e1 => if b = true then f e1 else g e1
  | .ex x e1 => .ex x e1
  | _ => .stuck
theorem sd_if {fc : FM} (hc : TM X Wx c fc) (ha : SDs X Wx lk sts f) (hb : SDs X Wx lk sts2 g) : SD X Wx lk (.If c sts sts2 pos) (sIf fc f g) := by
  obtain ⟨t, p, kc⟩ := hc.run
  obtain ⟨ua, pa, ka⟩ := ha.run
  obtain ⟨ub, pb, kb⟩ := hb.run
  refine SD.of ⟨_, ps_if p pa pb, fun W H σ e D sr h => kc W H σ e _ sr ?_⟩
  unfold sIf at h
  revert h
  generalize fc e = o
  intro h
  cases o with
  | stuck => exact h
  | ex x e1 => exact fun c d W' H' sr' x' r => h c d W' H' σ sr' x' (fun _ _ => rfl) r
  | ok s e1 =>
    cases s with
    | lst xs => exact h.elim
    | d y =>
      cases y with
      | bl b =>
        refine ⟨b, rfl, fun W1 H1 sr1 x1 => ?_⟩
        have h' := FlK.go x1 (fun _ _ => rfl) h
        cases b with
        | true => exact ka W1 H1 σ e1 D sr1 h'
        | false => exact kb W1 H1 σ e1 D sr1 h'
      | _ => exact h.elim
/-! ### while -/
def whileF (fc : FM) (fb : FS) : Nat → FS
  | 0, _ => .stuck
  | n + 1, e => match fc e with
    | .ok (.d (.bl b)) e1 => if b = true then (match fb e1 with
      | .nx e2 => whileF fc fb n e2
      | .ct e2 => whileF fc fb n e2
      | .bk e2 => .nx e2
      | o => o) else .nx e1
    | .ex x e1 => .ex x e1
    | _ => .stuck
theorem sd_while {fc : FM} {fb : FS} (n : Nat) (hp : PassesOwn (model X.prog X.w) X.A X.env X.xe) (hc : TM X Wx c fc) (hb : SDs X Wx lk sts fb) : SD X Wx lk (.While c sts [] pos) (whileF fc fb n) := by
  obtain ⟨t, p, kc⟩ := hc.run
  obtain ⟨u, pb, kb⟩ := hb.run
  refine SD.of ⟨_, ps_while hp p pb, fun W H σ e D sr h => ?_⟩
  refine ⟨fun n σ2 H2 => ∃ W2 e2, SR W2 X.K H2 σ2 e2 ∧ FlK X.K X.mg Wx lk W2 H2 σ2 e2 D (whileF fc fb n e2), ⟨n, W, e, sr, h⟩, ?_⟩
  rintro m σ2 H2 ⟨W2, e2, sr2, h2⟩
  cases m with
  | zero => exact h2.elim
  | succ m =>
    refine kc W2 H2 σ2 e2 _ sr2 ?_
    unfold whileF at h2
    revert h2
    generalize fc e2 = o
    intro h2
    cases o with
    | stuck => exact h2
    | ex x e1 => exact fun c d W' H' sr' x' r => h2 c d W' H' σ2 sr' x' (fun _ _ => rfl) r
    | ok s e1 =>
      cases s with
      | lst xs => exact h2.elim
      | d y =>
        cases y with
        | bl b =>
          refine ⟨b, rfl, fun W3 H3 sr3 x3 => ?_⟩
          have h3 := FlK.go x3 (fun _ _ => rfl) h2
          cases b with
          | false => exact iteF (h3 W3 H3 σ2 sr3 .refl fun _ _ => rfl)
          | true =>
            refine iteT ⟨fun σ' H' => ∃ W4 e4, SR W4 X.K H' σ' e4 ∧ FlK X.K X.mg Wx lk W4 H' σ' e4 D (whileF fc fb m e4), fun σ' H' q => ⟨m, Nat.lt_succ_self m, q⟩, kb W3 H3 σ2 e1 _ sr3 ?_⟩
            have h3 : FlK X.K X.mg Wx lk W3 H3 σ2 e1 D (match fb e1 with
              | .nx e2 => whileF fc fb m e2
              | .ct e2 => whileF fc fb m e2
              | .bk e2 => .nx e2
              | o => o) := h3
            revert h3
            generalize fb e1 = fl
            intro h3
            cases fl with
            | stuck => exact h3
            | nx e4 => exact fun W4 H4 σ4 sr4 x4 l4 => ⟨W4, e4, sr4, FlK.go x4 l4 h3⟩
            | ct e4 => exact fun W4 H4 σ4 sr4 x4 l4 => ⟨W4, e4, sr4, FlK.go x4 l4 h3⟩
            | bk e4 => exact h3
            | rt s e4 => exact h3
            | ex x e4 => exact h3
        | _ => exact h2.elim
/-! ### for -/
@[simp] def forL (bind : FG) (fb : FS) : List D → FS
  | [], e => .nx e
  | d :: ds, e => match bind d e with
    | none => .stuck
    | some e1 => match fb e1 with
      | .nx e2 => forL bind fb ds e2
      | .ct e2 => forL bind fb ds e2
      | .bk e2 => .nx e2
      | o => o
@[simp] def sFor (fi : FI) (bind : FG) (fb : FS) : FS := fun e => match fi e with
  | some (ds, true) => forL bind fb ds e
  | _ => .stuck
theorem sd_for {tg iter : Expr} {vs : List Nat} {fi : FI} {bind : FG} {fb : FS} (hp : PassesOwn (model X.prog X.w) X.A X.env X.xe) (hc : X.calm = true) (hi : IP X tg iter fi) (hg : GP X tg vs bind) (hb : SDs X Wx lk sts fb) (hlk : ∀ j ∈ lk, j ∉ vs := by decide)
    (hs : ∀ x, foldedSetIterable iter X.env x = pure x := by intro _; rfl) : SD X Wx lk (.For tg iter sts [] pos) (sFor fi bind fb) := by
  obtain ⟨u, pb, kb⟩ := hb.run
  refine SD.of ⟨_, ps_for (g := tG tg X.K vs bind) hp hc hi.pi hg.pg pb hs, fun W H σ e D sr h => ?_⟩
  unfold sFor at h
  split at h
  rotate_left
  · exact h.elim
  rename_i ds hds
  refine ⟨W, e, ds, true, sr, hds, fun J W1 H1 g1 it => ?_⟩
  refine ⟨fun i m σ2 H2 => m = ds.length - i ∧ i ≤ ds.length ∧ ∃ W2 e2, SR W2 X.K H2 σ2 e2 ∧ Ex W1 H1 W2 H2 ∧ FlK X.K X.mg Wx lk W2 H2 σ2 e2 D (forL bind fb (ds.drop i) e2), ⟨ds.length, rfl, Nat.zero_le _, W1, e, g1.sr sr, .refl g1.wm, FlK.go (g1.fx sr) (fun _ _ => rfl) h⟩, ?_⟩
  rintro i m σ2 H2 ⟨rfl, hle, W2, e2, sr2, x2, h2⟩
  have I2 := it W2 H2 (.inr ⟨rfl, x2, sr2.wm⟩)
  by_cases hlt : i < ds.length
  · refine .inr ?_
    obtain ⟨d, hd⟩ : ∃ d, ds[i]? = some d := ⟨ds[i], List.getElem?_eq_getElem hlt⟩
    obtain ⟨hgo, hy⟩ := I2.1 i d hd
    refine ⟨hgo, fun σ' H' => ∃ W4 e4, SR W4 X.K H' σ' e4 ∧ Ex W1 H1 W4 H' ∧ FlK X.K X.mg Wx lk W4 H' σ' e4 D (forL bind fb (ds.drop (i + 1)) e4), fun σ' H' q => ⟨ds.length - (i + 1), by omega, rfl, hlt, q⟩, fun x H3 y => ?_⟩
    obtain ⟨kp, rp⟩ := hy x H3 y
    have ed : ds.drop i = d :: ds.drop (i + 1) := by
      rw [List.drop_eq_getElem_cons hlt]
      rw [List.getElem?_eq_getElem hlt] at hd
      cases hd
      rfl
    rw [ed] at h2
    unfold forL at h2
    split at h2
    · exact h2.elim
    rename_i e1 he1
    have g3 : Grow W2 H2 W2 H3 := .of sr2.wm kp
    have sr3 := g3.sr sr2
    refine ⟨W2, e2, d, e1, sr3, rp, he1, fun σ1 sr1 l1 a1 o1 => kb W2 H3 σ1 e1 _ sr1 ?_⟩
    have x3 : EX W2 H2 σ2 e2 W2 H3 σ1 e1 := (g3.fx sr2).trans (EX.shrink o1)
    have xx : Ex W1 H1 W2 H3 := x2.trans (g3.ex sr2.wm)
    have h3 := FlK.go x3 (fun j hj => a1 j (hlk j hj)) h2
    revert h3
    generalize fb e1 = fl
    intro h3
    cases fl with
    | stuck => exact h3
    | nx e4 => exact fun W4 H4 σ4 sr4 x4 l4 => ⟨W4, e4, sr4, xx.trans (x4.ex sr1), FlK.go x4 l4 h3⟩
    | ct e4 => exact fun W4 H4 σ4 sr4 x4 l4 => ⟨W4, e4, sr4, xx.trans (x4.ex sr1), FlK.go x4 l4 h3⟩
    | bk e4 => exact h3
    | rt s e4 => exact h3
    | ex x e4 => exact h3
  · have ei : i = ds.length := by omega
    subst ei
    rw [List.drop_length] at h2
    exact .inl ⟨I2.2, h2 W2 H2 σ2 sr2 .refl fun _ _ => rfl⟩
/-! ### a, b = x, y -/
@[simp] def OA.st (o : OA) (f : List AR → FS) : Fl := match o with
  | .stuck => .stuck
  | .ok as e => f as e
  | .ex x e => .ex x e
@[simp] def AR.s? : AR → Option S
  | .fz x => some (.d x)
  | .ow xs => some (.lst xs)
  | .bw _ => none
@[simp] def put2' (i j n : Nat) (u v : Option S) (e : En) : Fl := match u, v with
  | some u, some v => if n ≤ 1 ∧ i < e.length ∧ j < e.length then .nx ((e.set i (some u)).set j (some v)) else .stuck
  | _, _ => .stuck
@[simp] def put2 (i j : Nat) : List AR → FS := fun as e => match as with
  | [r, s] => put2' i j (ows [r, s]) r.s? s.s? e
  | _ => .stuck
theorem put2_ok (i j : Nat) (as : List AR) (e : En) : put2 i j as e = .stuck ∨ ∃ r s u w, as = [r, s] ∧ r.s? = some u ∧ s.s? = some w ∧ (ows [r, s] ≤ 1 ∧ i < e.length ∧ j < e.length) ∧ put2 i j as e = .nx ((e.set i (some u)).set j (some w)) := by
  match as with
  | [] => exact .inl rfl
  | [_] => exact .inl rfl
  | _ :: _ :: _ :: _ => exact .inl rfl
  | [r, s] =>
    show put2' i j (ows [r, s]) r.s? s.s? e = .stuck ∨ _
    cases hu : r.s? with
    | none => exact .inl rfl
    | some u =>
      cases hv : s.s? with
      | none => exact .inl rfl
      | some v =>
        by_cases hc : ows [r, s] ≤ 1 ∧ i < e.length ∧ j < e.length
        · exact .inr ⟨r, s, u, v, rfl, hu, hv, hc, by show put2' i j (ows [r, s]) r.s? s.s? e = _; rw [hu, hv]; exact if_pos hc⟩
        · exact .inl (if_neg hc)
@[simp] def sPar (i j : Nat) (fs : FAR) : FS := fun e => (fs e).st (put2 i j)
theorem ARok.rs {H0 : Hp} {W : List Addr} {K : PySem.W.Frag} {H : Hp} {σ : St} {e : En} : ∀ {r : AR} {v : V} {s : S}, ARok H0 W K H σ e r v → r.s? = some s → RS W K H s v ∧ (s.own = true → ∀ a, v = .ref a → H0 a = none ∧ ¬ Ow σ e a)
  | .fz x, v, s, h, q => by cases q; exact ⟨h, fun z => nomatch z⟩
  | .ow xs, v, s, ⟨a, vs, ev, h0, h1, h2, h3, h4⟩, q => by
    cases q
    refine ⟨⟨a, vs, ev, h1, h2, h3⟩, fun _ b eb => ?_⟩
    rw [ev] at eb
    cases eb
    exact ⟨h0, h4⟩
  | .bw i, v, s, h, q => by cases q
theorem sd_par (i j : Nat) {x y : Str} {px py pt : Pos} {kt k2 : Nat} {pt2 : Pos} {fs : FAR} (hc : X.calm = true) (ha : ARJ X Wx [a, b] fs) (hN : X.N.Nodup)
    (hw : swappedStores [.Tuple [.Name x px, .Name y py] kt pt] (.Tuple [a, b] k2 pt2) X.env = pure (some [x, y]))
    (hli : i ∉ lk := by decide) (hlj : j ∉ lk := by decide) (hi : X.N[i]? = some x := by rfl) (hj : X.N[j]? = some y := by rfl) (hij : i ≠ j := by decide)
    (hx : X.env.scope.names.lookup x = some .local := by rfl) (hy : X.env.scope.names.lookup y = some .local := by rfl)
    (hs : swapsWithSole [.Tuple [.Name x px, .Name y py] kt pt] (.Tuple [a, b] k2 pt2) pos.line X.env = pure false := by rfl) :
    SD X Wx lk (.Assign [.Tuple [.Name x px, .Name y py] kt pt] (.Tuple [a, b] k2 pt2) pos) (sPar i j fs) := by
  obtain ⟨t, p, k⟩ := ha.run
  refine SD.of ⟨_, ps_par hc hN hi hj hij hx hy p hw hs, fun W H σ e D sr h => k W H σ e _ sr ?_⟩
  unfold sPar at h
  revert h
  generalize fs e = o
  intro h
  cases o with
  | stuck => exact h
  | ex z e1 => exact fun c d W' H' sr' x' r => h c d W' H' σ sr' x' (fun _ _ => rfl) r
  | ok as e1 =>
    intro vs W1 H1 sr1 x1 ar
    have h : FlK X.K X.mg Wx lk W H σ e D (put2 i j as e1) := h
    rcases put2_ok i j as e1 with q | ⟨r, s, u, w, rfl, hu, hv, hz, q⟩
    · rw [q] at h
      exact h.elim
    rw [q] at h
    obtain ⟨v, us, rfl, ar1, v', us', rfl, ar2, en⟩ := ar
    cases (show us' = [] from en)
    obtain ⟨r1, f1⟩ := ar1.rs hu
    obtain ⟨r2, f2⟩ := ar2.rs hv
    obtain ⟨s2, x2⟩ := store_own sr.wm sr1 x1 r1 f1 hz.2.1
    have f2' : w.own = true → ∀ a, v' = .ref a → H a = none ∧ ¬ Ow (σ.set i (some v)) (e1.set i (some u)) a := by
      intro wo a ea
      refine ⟨(f2 wo a ea).1, ?_⟩
      cases u with
      | d y => exact fun z => (f2 wo a ea).2 (z.setD hz.2.1)
      | lst ys =>
        exfalso
        cases r with
        | fz x => cases hu
        | bw k => cases hu
        | ow zs =>
          cases s with
          | fz x => cases hv; cases wo
          | bw k => cases hv
          | ow qs => exact absurd hz.1 (by show ¬ (0 + 1 + 1 ≤ 1); omega)
    obtain ⟨s3, x3⟩ := store_own (i := j) sr.wm s2 x2 r2 f2' (by rw [List.length_set]; exact hz.2.2)
    refine ⟨v, v', rfl, h W1 H1 _ s3 x3 fun l hl => ?_⟩
    rw [List.getElem?_set_ne fun (z : j = l) => hlj (by rw [z]; exact hl), List.getElem?_set_ne fun (z : i = l) => hli (by rw [z]; exact hl)]
end

/-! ## targets that change lists: a[i] = .. -/
def tGe (K : PySem.W.Frag) (lk : List Nat) (f : FG) : TG := fun v σ H Q => ∃ (W : List Addr) (e : En) (d : D) (e' : En), SR W K H σ e ∧ Rp W K H d v ∧ f d e = some e' ∧
  ∀ W' H' σ', SR W' K H' σ' e' → EX W H σ e W' H' σ' e' → (∀ j ∈ lk, σ'[j]? = σ[j]?) → Q σ' H'
structure GE (X : Cx) (tg : Expr) (lk : List Nat) (f : FG) : Prop where
  pg : PG X tg (tGe X.K lk f)
def tGes (K : PySem.W.Frag) (lk : List Nat) (f : List D → En → Option En) : TGs := fun us σ H Q => ∃ (W : List Addr) (e : En) (ds : List D) (e' : En), SR W K H σ e ∧ RpL W K H ds us ∧ f ds e = some e' ∧
  ∀ W' H' σ', SR W' K H' σ' e' → EX W H σ e W' H' σ' e' → (∀ j ∈ lk, σ'[j]? = σ[j]?) → Q σ' H'
structure GEs (X : Cx) (ts : List Expr) (lk : List Nat) (f : List D → En → Option En) : Prop where
  pgs : PGs X ts (tGes X.K lk f)
section
variable {X : Cx} {Wx : WX} {lk : List Nat} {a : Expr} {fa : FM} {pos : Pos}
theorem ge_gp {tg : Expr} {vs : List Nat} {f : FG} (h : GP X tg vs f) (hlk : ∀ j ∈ lk, j ∉ vs := by decide) : GE X tg lk f :=
  ⟨⟨fun pins s σ H v u Q I r ⟨W, e, d, e', sr, rp, hf, k⟩ => h.pg.run pins s σ H v u Q I r ⟨W, e, d, e', sr, .of rp, hf, fun σ' sr' l' a' o' => k W H σ' sr' (EX.shrink o') fun j hj => a' j (hlk j hj)⟩⟩⟩
/-- slot i's list at index .. -/
@[simp] def gSet (i : Nat) (fi : FP) : FG := fun d e => match e[i]? with
  | some (some (.lst xs)) => (fi e).bind fun r => r.i?.bind fun k => (ixN xs.length k).map fun j => e.set i (some (.lst (xs.set j d)))
  | _ => none
theorem ge_sub (i : Nat) {x : Str} {px : Pos} {ix : Expr} {fi : FP} (hi : PP X ix fi) (hN : X.N[i]? = some x := by rfl) (hv : Vis X.env.scope x := by first | exact Or.inl rfl | exact Or.inr (Or.inl rfl) | exact Or.inr (Or.inr rfl)) (hd : (x == ("__debug__" : Str)) = false := by decide)
    (hcd : (x == ("__classdict__" : Str)) = false := by decide)
    (has : ∀ v, assign (.Subscript (.Name x px) ix pos) X.env v = (do
      let ov ← holding [v] (eval (.Name x px) X.env)
      let iv ← holding [v, ov] (eval ix X.env)
      standAt pos
      holding [v, ov, iv] (setItem ov iv v)
      release [v, ov, iv] []) := by intro _; rfl) : GE X (.Subscript (.Name x px) ix pos) lk (gSet i fi) := by
  obtain ⟨ti, pi, ki⟩ := hi.run
  refine ⟨⟨fun pins s σ H v u Q I r ⟨W, e, d, e', sr, rp, hf, k⟩ => (pg_sub (pe_var hN hv hd hcd) pi set_list has).run pins s σ H v u Q I r ?_⟩⟩
  unfold gSet at hf
  split at hf
  rotate_left
  · cases hf
  rename_i xs hx
  obtain ⟨rv, e1, hf⟩ := Option.bind_eq_some_iff.mp hf
  obtain ⟨kk, e2, hf⟩ := Option.bind_eq_some_iff.mp hf
  obtain ⟨j, e3, ef⟩ := Option.map_eq_some_iff.mp hf
  have e4 := RV.i?_ok e2
  subst e4
  subst ef
  obtain ⟨l, vs, q1, q2, q3, q4⟩ := sr.hit hx
  refine ⟨_, q1, ki W H σ e _ _ sr e1 fun iv W1 H1 g1 k1 => ?_⟩
  have sr1 := g1.sr sr
  have at1 := g1.keep _ _ q3
  have rp1 := Rp.mono (g1.ex sr.wm) d rp
  have rx1 := RpL.mono (g1.ex sr.wm) xs q4
  obtain ⟨s2, x2⟩ := sr1.setL hx q1 (g1.sub _ q2) (rx1.set j rp1)
  exact ⟨l, vs, kk, j, rfl, k1, at1, by rw [← rx1.length]; exact e3, k W1 _ σ s2 ((g1.fx sr).trans x2) fun _ _ => rfl⟩
theorem ges_nil : GEs X [] lk gsNil := by
  refine ⟨⟨fun pins s σ H us vals Q I r ⟨W, e, ds, e', sr, rp, hfd, k⟩ => ?_⟩⟩
  cases ds with
  | nil =>
    cases (show us = [] from rp)
    cases hfd
    exact pgs_nil.run pins s σ H [] vals Q I r ⟨rfl, k W H σ sr .refl fun _ _ => rfl⟩
  | cons d r => cases hfd
theorem ges_cons {t : Expr} {es : List Expr} {f : FG} {fs : List D → En → Option En} (h1 : GE X t lk f) (h2 : GEs X es lk fs)
    (hs : (assignEach (t :: es) X.env).map (·.2) = assign t X.env :: (assignEach es X.env).map (·.2) := by rfl) : GEs X (t :: es) lk (gsCons f fs) := by
  refine ⟨⟨fun pins s σ H us vals Q I r ⟨W, e, ds, e', sr, rp, hfd, k⟩ => ?_⟩⟩
  cases ds with
  | nil => cases hfd
  | cons d ds =>
    obtain ⟨v, ur, rfl, p1, p2⟩ := rp
    obtain ⟨e1, he1, hfd⟩ := Option.bind_eq_some_iff.mp hfd
    refine (pgs_cons h1.pg h2.pgs hs).run pins s σ H _ vals Q I r ⟨v, ur, rfl, W, e, d, e1, sr, p1, he1, fun W1 H1 σ1 sr1 x1 l1 => ?_⟩
    exact ⟨W1, e1, ds, e', sr1, RpL.mono (x1.ex sr) ds p2, hfd, fun W2 H2 σ2 sr2 x2 l2 => k W2 H2 σ2 sr2 (x1.trans x2) fun j hj => (l2 j hj).trans (l1 j hj)⟩
theorem ge_tup {es : List Expr} {k : Nat} {p : Pos} {fs : List D → En → Option En} {n : Nat} (hc : X.calm = true) (h : GEs X es lk fs) (hn : (assignEach es X.env).length = n := by rfl) (hst : (assignEach es X.env).findIdx? (·.1) = none := by rfl) :
    GE X (.Tuple es k p) lk (gTp n fs) := by
  refine ⟨⟨fun pins s σ H v u Q I r ⟨W, e, d, e', sr, rp, hfd, kk⟩ => ?_⟩⟩
  cases d with
  | tup xs =>
    have hfd' : (if xs.length = n then fs xs e else none) = some e' := hfd
    split at hfd'
    · rename_i hl
      obtain ⟨a, us, e1, q1, q2⟩ := rp
      exact (pg_tup hc h.pgs hn hst).run pins s σ H v u Q I r ⟨a, us, e1, q1.1, by rw [← q2.length]; exact hl, W, e, xs, e', sr, q2, hfd', kk⟩
    · cases hfd'
  | _ => cases hfd
@[simp] def sAsg (fa : FM) (f : FG) : FS := fun e => (fa e).st fun s e1 => match f s.view e1 with
  | some e2 => .nx e2
  | none => .stuck
theorem sd_asg {tg : Expr} {f : FG} (ha : PM X Wx a fa) (hg : GE X tg lk f) (hs : swapsWithSole [tg] a pos.line X.env = pure false := by rfl) (hw : swappedStores [tg] a X.env = pure none := by rfl)
    (h1 : (assignEach [tg] X.env).map (·.2) = [assign tg X.env] := by rfl) : SD X Wx lk (.Assign [tg] a pos) (sAsg fa f) := by
  obtain ⟨t, p, k⟩ := ha.run
  refine SD.of ⟨_, ps_asg p hg.pg hs hw h1, fun W H σ e D sr h => k W H σ e _ sr (DK.st sr.wm h fun s v e1 W1 H1 sr1 x1 r h1 => ?_)⟩
  split at h1
  · rename_i e2 he
    exact ⟨W1, e1, s.view, e2, sr1, r, he, fun W' H' σ' sr' x' l' => h1 W' H' σ' sr' x' l'⟩
  · exact h1.elim
end
end DL

set_option maxHeartbeats 2000000
namespace DL
open PySem PySem.Spec PyProof.Rows L2

/-! ## repr -/
section
variable {X : Cx}
def gRepr : List D → Option RV
  | [x] => (match x with
    | .tup _ => if x.okp = true ∧ x.py.showable = true ∧ x.py.depth ≤ 100 ∧ x.py.shown.length ≤ SZ then some (.fz (.str x.py.shown)) else none
    | .lst _ => if x.okp = true ∧ x.py.showable = true ∧ x.py.depth ≤ 100 ∧ x.py.shown.length ≤ SZ then some (.fz (.str x.py.shown)) else none
    | _ => none)
  | _ => none
mutual
theorem D.noDict : ∀ d : D, d.okp = true → d.py.hasDict = false
  | .non, _ => rfl
  | .bl _, _ => rfl
  | .int _, _ => rfl
  | .str _, _ => rfl
  | .tup xs, o => by show (PyData.tuple (pyL xs)).hasDict = false; simp only [PyData.hasDict]; exact noDictL xs o
  | .lst xs, o => by show (PyData.list (pyL xs)).hasDict = false; simp only [PyData.hasDict]; exact noDictL xs o
  | .ro xs, o => by show (PyData.list (pyL xs)).hasDict = false; simp only [PyData.hasDict]; exact noDictL xs o
theorem noDictL : ∀ ds : List D, okpL ds = true → PyData.hasDictAll (pyL ds) = false
  | [], _ => by unfold pyL; simp only [PyData.hasDictAll]
  | d :: ds, o => by
    obtain ⟨o1, o2⟩ := Bool.and_eq_true_iff.mp (show (d.okp && okpL ds) = true from o)
    unfold pyL
    simp only [PyData.hasDictAll, D.noDict d o1, noDictL ds o2, Bool.or_false]
end
def rRepr (K : PySem.W.Frag) : List V → Hp → VK → Prop := fun xs H Q => ∃ (a : Addr) (d : PyData), xs = [.ref a] ∧ Dp K H (.ref a) d ∧ d.showable = true ∧ d.hasDict = false ∧ d.depth ≤ 100 ∧ d.shown.length ≤ sizeLine ∧ Q (.str d.shown) H
theorem call_reprD (hg : X.A.guards = some []) (hu : X.A.units + 110 < cLine) : CallR X (.builtin "repr") (rRepr X.K) := by
  intro pins s σ H xs us Q I r h
  obtain ⟨a, d, rfl, dp, hs, hd, hp, hz, q⟩ := h
  cases r with
  | cons r rr =>
    cases rr
    obtain ⟨as, rd⟩ := Dp.reads I d _ _ dp r
    cases r
    refine repr_of_reads' rd hs (PyData.noDict_hsm hd) hg (by omega) (fun _ _ e => e) (fun h' u tk k => ?_) hz
    exact ⟨.str d.shown, H, I.kept (t' := tk) k, ⟨u, rfl⟩, q⟩
theorem c_repr (hg : X.A.guards = some []) (hu : X.A.units + 110 < cLine) : Ca X (.builtin "repr") gRepr := by
  refine ⟨_, call_reprD hg hu, fun W H xs ds r Q wm hx hgr k => ?_⟩
  have main : ∀ x : D, VzL W X.K H [x] xs → (∃ v, xs = [v] ∧ ∃ a, v = .ref a) → (if x.okp = true ∧ x.py.showable = true ∧ x.py.depth ≤ 100 ∧ x.py.shown.length ≤ SZ then some (RV.fz (.str x.py.shown)) else none) = some r → rRepr X.K xs H Q := by
    intro x hx ⟨v, ev, a, ea⟩ hgr
    split at hgr
    · rename_i hz
      cases hgr
      obtain ⟨v', e1, h⟩ := hx.one
      rw [ev] at e1
      cases e1
      have dp := Vz.dp hz.1 h
      subst ea
      exact ⟨a, x.py, ev, dp, hz.2.1, D.noDict x hz.1, hz.2.2.1, by rw [SZ_eq]; exact hz.2.2.2, k.fz wm rfl⟩
    · cases hgr
  unfold gRepr at hgr
  split at hgr
  rotate_left
  · cases hgr
  split at hgr
  · refine main _ hx ?_ hgr
    obtain ⟨v, e1, a, vs, e2, _⟩ := hx.one
    exact ⟨v, e1, a, e2⟩
  · refine main _ hx ?_ hgr
    obtain ⟨v, e1, a, vs, e2, _⟩ := hx.one
    exact ⟨v, e1, a, e2⟩
  · cases hgr
end

/-! ## methods of texts, of the module's tuples -/
section
variable {X : Cx} {o a : Expr} {fo : FP} {fs : FA} {es : List Expr} {apos cpos : Pos} {m : Str}
structure MtS (X : Cx) (id : String) (g : Str → List D → Option RV) : Prop where
  run : ∃ r : V → List V → Hp → VK → Prop, MtR X id r ∧ ∀ (W : List Addr) (H : Hp) (z : Str) (ds : List D) (xs : List V) (rv : RV) (Q : VK), WM W H → VzL W X.K H ds xs → g z ds = some rv → KQ W X.K H rv Q → r (.str z) xs H Q
@[simp] def RV.s? : RV → Option Str
  | .fz (.str b) => some b
  | _ => none
theorem RV.s?_ok {r : RV} {b : Str} (h : r.s? = some b) : r = .fz (.str b) := by
  unfold RV.s? at h
  split at h
  · cases h; rfl
  · cases h
@[simp] def pSm (g : Str → List D → Option RV) (fo : FP) (fs : FA) : FP := fun e => (fo e).bind fun r => r.s?.bind fun z => (fs e).bind fun rs => g z (rs.map RV.view)
theorem pp_smeth {id : String} {g : Str → List D → Option RV} (hm : MtS X id g) (slot : Slot "str" m id) (ho : PP X o fo) (ha : PPs X (a :: es) fs) (hty : typeOf (.builtin id) = pure (.type "method_descriptor"))
    (hbase : attributeBase o m X.env (eval o X.env) = eval o X.env := by rfl)
    (hfew : ((backTo cpos (starEach (a :: es) X.env)).all (fun x => !x.1) && (backToKw cpos (keywordEach [] X.env)).all (fun x => x.1.isSome) && decide ((a :: es).length + ([] : List Keyword).length + (if ([] : List Keyword).isEmpty then 0 else 1) < 30)) = true := by rfl)
    (hline : (apos.endLine == cpos.line) = true := by rfl) (hs : starEach (a :: es) X.env = (false, eval a X.env) :: starEach es X.env := by rfl) (hplain : (backTo cpos (starEach es X.env)).any (·.1) = false := by rfl) :
    PP X (.Call (.Attribute o m apos) (a :: es) [] cpos) (pSm g fo fs) := by
  obtain ⟨rl, h1, h2⟩ := hm.run
  obtain ⟨to, po, ko⟩ := ho.run
  obtain ⟨t, pa, ka⟩ := ha.run
  refine PP.of ⟨_, pe_bm F.plainAttrs_str slot hty h1 po pa hbase hfew hline hs hplain, fun W H σ e Q r sr hf k => ?_⟩
  obtain ⟨r1, e1, hy⟩ := Option.bind_eq_some_iff.mp hf
  obtain ⟨z, e2, hw⟩ := Option.bind_eq_some_iff.mp hy
  obtain ⟨rs, e3, hv⟩ := Option.bind_eq_some_iff.mp hw
  have e4 := RV.s?_ok e2
  subst e4
  refine ko W H σ e _ _ sr e1 fun v W1 H1 g1 k1 => ?_
  have k1 : v = .str z := k1
  subst k1
  refine ⟨rfl, ka W1 H1 σ e _ rs (g1.sr sr) e3 fun vs W2 H2 g2 k2 => ?_⟩
  exact h2 W2 H2 z _ vs r Q g2.wm k2.vzL hv fun v W' H' g3 k3 => k v W' H' ((g1.trans g2).trans g3) (k3.back fun a h => g1.fresh (g2.fresh h))
def gJoin (z : Str) : List D → Option RV
  | [.lst xs] => (strs? xs).bind fun ys => if (ys.map (·.length)).sum + ys.length * z.length ≤ SZ then some (.fz (.str (Txt.join z ys))) else none
  | [.tup xs] => (strs? xs).bind fun ys => if (ys.map (·.length)).sum + ys.length * z.length ≤ SZ then some (.fz (.str (Txt.join z ys))) else none
  | _ => none
theorem s_join : MtS X "str.join" gJoin := by
  refine ⟨_, mt_join, fun W H z ds xs r Q wm hx hg k => ?_⟩
  unfold gJoin at hg
  split at hg
  · obtain ⟨ys, e, hg⟩ := Option.bind_eq_some_iff.mp hg
    split at hg
    · rename_i hz
      cases hg
      obtain ⟨v, rfl, p, vs, rfl, h1, r1⟩ := hx.one
      exact ⟨z, p, ys, rfl, rfl, .inl (.of (by rw [h1, strs_ok r1 e])), hz, k.fz wm rfl⟩
    · cases hg
  · obtain ⟨ys, e, hg⟩ := Option.bind_eq_some_iff.mp hg
    split at hg
    · rename_i hz
      cases hg
      obtain ⟨v, rfl, p, vs, rfl, h1, r1⟩ := hx.one
      exact ⟨z, p, ys, rfl, rfl, .inr (by rw [← strs_ok r1 e]; exact h1.1), hz, k.fz wm rfl⟩
    · cases hg
  · cases hg
@[simp] def gSindex (z : Str) : List D → Option RV
  | [.str b] => (Builtin.Str.occurrences z b 0 z.length 1).head?.map fun i => .fz (.int (i : Nat))
  | _ => none
theorem s_index : MtS X "str.index" gSindex := by
  refine ⟨_, mt_sindex, fun W H z ds xs r Q wm hx hg k => ?_⟩
  unfold gSindex at hg
  split at hg
  · obtain ⟨i, e, hg⟩ := Option.map_eq_some_iff.mp hg
    cases hg
    obtain ⟨v, rfl, h⟩ := hx.one
    cases (show v = .str _ from h)
    cases q : Builtin.Str.occurrences z _ 0 z.length 1 with
    | nil => rw [q] at e; cases e
    | cons j rest =>
      rw [q] at e
      cases e
      exact ⟨z, _, i, rest, rfl, rfl, q, k.fz wm rfl⟩
  · cases hg
/-- a tuple of whole numbers that the module holds -/
def rTI (K : PySem.W.Frag) : V → List V → Hp → VK → Prop := fun x xs H Q => ∃ (p : Addr) (ns : List Int) (i : Int), x = .ref p ∧ xs = [.int i] ∧ SqT K H p (ns.map V.int) ∧ i ∈ ns ∧ Q (.int (ns.idxOf i : Nat)) H
theorem mt_tupI : MtR X "tuple.index" (rTI X.K) := by
  intro pins s σ H x xs v us Q I rx rs h
  obtain ⟨p, ns, i, rfl, rfl, hq, hi, q⟩ := h
  cases rx
  obtain ⟨u, rfl, t, rfl⟩ := vals1 rs
  obtain ⟨its, r, pl, hz⟩ := I.tuple hq
  refine SeqAt.call_tuple_index (ks := ns) (k := i) pl ⟨by rw [← r.length, List.length_map], fun j h1 h2 => ?_⟩ hi ⟨.int _, H, I.tok _, ⟨_, rfl⟩, q⟩
  obtain ⟨w, hw, t', rw'⟩ := r.get (i := j) (x := .int ns[j]) (by simp [h2])
  have e := (List.getElem?_eq_some_iff.mp hw).2
  obtain ⟨b, hb, hbe⟩ := HT.eqAt_int X.A.in1 s ns[j] t' i t
  rw [e, rw']
  have : b = decide (ns[j] = i) := by
    cases b with
    | true => exact (decide_eq_true (hbe.mp rfl)).symm
    | false => exact (decide_eq_false fun z => Bool.noConfusion (hbe.mpr z)).symm
  rw [← this]
  exact hb
@[simp] def pTi (ns : List Int) (fa : FP) : FP := fun e => (fa e).bind fun r => r.i?.bind fun i => if i ∈ ns then some (.fz (.int (ns.idxOf i : Nat))) else none
theorem pp_tindex {x : Str} {px : Pos} {fa : FP} {A : Addr} (ns : List Int) (hm : X.mg x = some (.ref A)) (hl : ∃ o, X.K.lookup A = some o ∧ o.cls = .type "tuple" ∧ o.dict = none) (hq : ∀ H, SqT X.K H A (ns.map V.int)) (ha : PP X a fa) (hg : Gl X x := by rfl) (hd : (x == ("__debug__" : Str)) = false := by decide)
    (hty : typeOf (.builtin "tuple.index") = pure (.type "method_descriptor") := by rfl)
    (hbase : attributeBase (.Name x px) "index" X.env (eval (.Name x px) X.env) = eval (.Name x px) X.env := by rfl)
    (hfew : ((backTo cpos (starEach [a] X.env)).all (fun x => !x.1) && (backToKw cpos (keywordEach [] X.env)).all (fun x => x.1.isSome) && decide (([a] : List Expr).length + ([] : List Keyword).length + (if ([] : List Keyword).isEmpty then 0 else 1) < 30)) = true := by rfl)
    (hline : (apos.endLine == cpos.line) = true := by rfl) (hs : starEach [a] X.env = (false, eval a X.env) :: starEach [] X.env := by rfl) (hplain : (backTo cpos (starEach [] X.env)).any (·.1) = false := by rfl) :
    PP X (.Call (.Attribute (.Name x px) "index" apos) [a] [] cpos) (pTi ns fa) := by
  obtain ⟨t, pa, ka⟩ := ha.run
  refine PP.of ⟨_, pe_bm F.plainAttrs_tuple F.slot_tuple_index hty mt_tupI (pe_glob (v := .ref A) hg hm rfl hd) (pa_cons pa pa_nil hs) hbase hfew hline hs hplain, fun W H σ e Q r sr hf k => ?_⟩
  obtain ⟨r1, e1, hy⟩ := Option.bind_eq_some_iff.mp hf
  obtain ⟨i, e2, hw⟩ := Option.bind_eq_some_iff.mp hy
  have e3 := RV.i?_ok e2
  subst e3
  split at hw
  · rename_i hi
    cases hw
    refine ⟨.inr (.inl ⟨rfl, hl⟩), ka W H σ e _ _ sr e1 fun v W1 H1 g1 k1 => ?_⟩
    cases (show v = .int i from k1)
    exact ⟨A, ns, i, rfl, rfl, hq H1, hi, k _ W1 H1 g1 rfl⟩
  · cases hw
end
end DL

set_option maxHeartbeats 2000000
namespace DL
open PySem PySem.Spec PyProof.Rows L2

/-! ## x[::-1] -/
section
variable {prog : Program} {w : World} {A : Around} {E : Value → Shared → Prop} {s : Shared}
theorem places_rev (n : Nat) : Builtin.Slice.slicePlaces ((n : Int) - 1) (-1) (-1) = n := by
  unfold Builtin.Slice.slicePlaces
  have h1 : ¬ ((-1 : Int) > 0) := by decide
  simp only [h1, if_false]
  split
  · rw [show (- -1 : Int) = 1 by decide, Int.ediv_one]
    omega
  · omega
theorem applied_rev {sl : Addr} {vl vu vs : Value} {n : Nat} {Q : Int × Int × Nat → Shared → Prop} (hs : s.heap.IsSliceOf sl vl vu vs) (pl : IsPart vl none) (pu : IsPart vu none) (ps : IsPart vs (some (-1)))
    (h : Q ((n : Int) - 1, -1, n) s) : wpAny (model prog w) A (Builtin.Slice.sliceApplied (.ref sl) (pure (n : Int))) Q E s := by
  obtain ⟨os, hos, hcs, hds⟩ := id hs
  unfold Builtin.Slice.sliceApplied Builtin.Slice.sliceFields
  refine wpAny_bind (wpAny_bind (wpAny_field hos hds (x := vl) rfl (wpAny_bind (wpAny_field hos hds (x := vu) rfl (wpAny_bind (wpAny_field hos hds (x := vs) rfl (wpAny_pure ?_)))))))
  refine wpAny_bind (HT.slicePart_ ps ?_)
  show wpAny _ _ (if ((-1 : Int) == 0) = true then _ else _) _ _ s
  rw [if_neg (by decide)]
  refine wpAny_bind (HT.slicePart_ pl (wpAny_bind (HT.slicePart_ pu (wpAny_bind (wpAny_pure ?_)))))
  show wpAny _ _ (pure ((n : Int) - 1, (-1 : Int), Builtin.Slice.slicePlaces ((n : Int) - 1) (-1) (-1))) _ _ s
  rw [places_rev]
  exact wpAny_pure h
theorem fm_congr {α β : Type} {f g : α → Option β} : ∀ {l : List α}, (∀ a ∈ l, f a = g a) → l.filterMap f = l.filterMap g
  | [], _ => rfl
  | a :: l, h => by rw [List.filterMap_cons, List.filterMap_cons, h a List.mem_cons_self, fm_congr fun b hb => h b (List.mem_cons_of_mem _ hb)]
theorem pick_rev (xs : Array Value) : ((List.range xs.size).filterMap fun (m : Nat) => xs[((xs.size : Int) - 1 + (m : Int) * -1).toNat]?).toArray = xs.toList.reverse.toArray := by
  have e : (List.range xs.size).filterMap (fun (m : Nat) => xs[((xs.size : Int) - 1 + (m : Int) * -1).toNat]?) = ((List.range xs.size).map fun k => xs.size - 1 - k).filterMap (xs[·]?) := by
    rw [List.filterMap_map]
    refine fm_congr fun m hm => ?_
    have := List.mem_range.mp hm
    show xs[((xs.size : Int) - 1 + (m : Int) * -1).toNat]? = xs[xs.size - 1 - m]?
    rw [show ((xs.size : Int) - 1 + (m : Int) * -1).toNat = xs.size - 1 - m from by omega]
  rw [e, PySem.W.krv_range, List.filterMap_reverse, PySem.W.krv_all]
theorem item_tup_rev {t sl : Addr} {items : Array Value} {vl vu vs : Value} {Q : Value → Shared → Prop} (ht : IsTup s.heap t items) (hs : s.heap.IsSliceOf sl vl vu vs) (pl : IsPart vl none) (pu : IsPart vu none) (ps : IsPart vs (some (-1)))
    (h : Q (.ref s.heap.objs.size) { s with heap := s.heap.push { cls := .type "tuple", data := .seq items.toList.reverse.toArray } }) (hsz : items.size ≤ sizeLine) : wpAny (model prog w) A (getItem (.ref t) (.ref sl)) Q E s := by
  have fits : sizeOk (.seq items.toList.reverse.toArray) := by
    show items.toList.reverse.toArray.size ≤ sizeLine
    rw [List.size_toArray, List.length_reverse, Array.length_toList]
    exact hsz
  obtain ⟨os, hos, hcs, hds⟩ := id hs
  have tyS : s.TypeIs (.ref sl) "slice" := ⟨os, hos, hcs⟩
  unfold getItem
  try with_reducible refine wpAny_holding ?_
  first | refine wpAny_bind (wpAny_pure ?_) | skip
  refine wpAny_bind (wpAny_sequenceKey ht.typeIs (by decide) ?_)
  refine wpAny_bind (wpAny_callSpecial?_slot (name := Str.ofString "__getitem__") ht.typeIs PyProof.Rows.slot_tuple_getitem (wpAny_call_entry PyProof.Rows.slot_tuple_getitem ht.typeIs entry_tuple_getitem ?_ (args_tuple_getitem _ _)))
  show wpAny _ _ (Builtin.Tuple.tupleItemsOf (.ref t) >>= _) _ _ s
  refine wpAny_bind (tupleItemsOf_ ht ?_)
  refine wpAny_bind (wpAny_typeOf tyS ?_)
  rw [if_pos (by decide)]
  refine wpAny_bind (applied_rev hs pl pu ps ?_)
  have no1 : ¬ ((((items.size : Int) - 1) == 0 && (-1 : Int) == 1 && items.size == items.size) = true) := by
    intro q
    rw [Bool.and_eq_true, Bool.and_eq_true] at q
    exact absurd (eq_of_beq q.1.2) (by decide)
  show wpAny _ _ (if (((items.size : Int) - 1) == 0 && (-1 : Int) == 1 && items.size == items.size) = true then _ else _) _ _ s
  rw [if_neg no1, pick_rev]
  first
    | exact wpAny_bind (m := Builtin.Tuple.tupleExact _) (wpAny_newObj_type (wpAny_pure ⟨_, rfl, wpAny_pure h⟩) fits)
    | exact wpAny_bind (m := Builtin.Tuple.tupleExact _) (wpAny_newObj_type (wpAny_bind (wpAny_pure (wpAny_pure ⟨_, rfl, wpAny_pure h⟩))) fits)
    | exact wpAny_bind (wpAny_bind (m := Builtin.Tuple.tupleExact _) (wpAny_newObj_type (wpAny_pure (wpAny_pure ⟨_, rfl, wpAny_pure h⟩)) fits))
    | exact wpAny_bind (wpAny_bind (m := Builtin.Tuple.tupleExact _) (wpAny_newObj_type (wpAny_pure ⟨_, rfl, wpAny_pure h⟩) fits))
end
def revS (z : Str) : Str := ⟨z.cps.toList.reverse.toArray⟩
theorem pick_revS (z : Str) : ((Builtin.Str.strSliceIndices none none (-1) z.length).filterMap (z.cps[·]?)).toArray = z.cps.toList.reverse.toArray := by
  rw [PyProof.Rows.picked_rev, PySem.W.krv_range, List.filterMap_reverse]
  show ((List.range z.cps.size).filterMap (z.cps[·]?)).reverse.toArray = _
  rw [PySem.W.krv_all]
section
variable {X : Cx} {e : Expr} {k : Nat} {p1 p2 p3 pos : Pos} {fe : FP}
def tRv (K : PySem.W.Frag) (te : TE) : TE := fun σ H Q => te σ H fun x H1 => (∃ a xs, x = .ref a ∧ SqT K H1 a xs ∧ NewT H1 xs.reverse Q) ∨ (∃ z, x = .str z ∧ z.length ≤ sizeLine ∧ Q (.str (revS z)) H1)
theorem pe_rv {te : TE} (he : PE X e te) : PE X (.Subscript e (.Slice none none (some (.UnaryOp .USub (.Constant (.int 1) k p1) p2)) p3) pos) (tRv X.K te) := by
  refine ⟨fun pins s σ H Q I h => ?_⟩
  refine Subscript_ (thn (he.run pins s σ H _ I h) fun v s1 ⟨x, H1, I1, r1, q1⟩ => ?_)
  have step : PO X (some (.UnaryOp .USub (.Constant (.int 1) k p1) p2)) (tPart (tUn (rU fun i => .int (-i)) (tC (.int 1)))) := po_some (pe_un un_neg pe_int)
  refine wpAny_Slice (thn (po_none.run pins s1 σ H1 (fun o H2 => o = none ∧ H2 = H1) I1 ⟨rfl, rfl⟩) fun vl s2 ⟨l, H2, I2, pl, el, e2⟩ => ?_)
  subst el e2
  refine thn (po_none.run pins s2 σ H2 (fun o H3 => o = none ∧ H3 = H2) I2 ⟨rfl, rfl⟩) fun vu s3 ⟨u, H3, I3, pu, eu, e3⟩ => ?_
  subst eu e3
  refine thn (step.run pins s3 σ H3 (fun o H4 => o = some (-1) ∧ H4 = H3) I3 ⟨1, rfl, -1, rfl, rfl, rfl⟩) fun vs s4 ⟨o, H4, I4, ps, eo, e4⟩ => ?_
  subst eo e4
  have I5 : Inv X pins σ H4 { s4 with heap := s4.heap.push { cls := .type "slice", data := .fields #[vl, vu, vs] } } := I4.kept (t' := s4.toks) fun b ob q => Heap.get?_push_of_some _ q
  have sl : ({ s4 with heap := s4.heap.push { cls := .type "slice", data := .fields #[vl, vu, vs] } } : Shared).heap.IsSliceOf s4.heap.objs.size vl vu vs := Heap.IsSliceOf.new ..
  rcases q1 with ⟨a, xs, ex, hx, q⟩ | ⟨z, ex, hz, q⟩
  · subst ex
    cases r1
    obtain ⟨its, r, ht, hz⟩ := I5.tuple hx
    have hlen := r.length
    show wpAny (model X.prog X.w) X.A (subscriptTail e (.Slice none none (some (.UnaryOp .USub (.Constant (.int 1) k p1) p2)) p3) (.ref a) (.ref s4.heap.objs.size)) (EP X pins σ Q) X.xe { s4 with heap := s4.heap.push { cls := .type "slice", data := .fields #[vl, vu, vs] } }
    refine tail_any (ops := [.ref a, .ref s4.heap.objs.size]) ht.typeIs PyProof.Rows.slot_tuple_getitem.lookup ?_ (by with_unfolding_all rfl)
    refine item_tup_rev ht sl pl pu ps ?_ (by rw [List.size_toArray]; omega)
    exact ep_newT (A := X.A) (its := its.reverse) I5 (fun _ _ e => e) (by rw [List.length_reverse]; exact hz) r.reverse (Nat.le_refl _) q
  · subst ex
    obtain ⟨t, rfl⟩ := r1
    show wpAny (model X.prog X.w) X.A (subscriptTail e (.Slice none none (some (.UnaryOp .USub (.Constant (.int 1) k p1) p2)) p3) (.str z t) (.ref s4.heap.objs.size)) (EP X pins σ Q) X.xe { s4 with heap := s4.heap.push { cls := .type "slice", data := .fields #[vl, vu, vs] } }
    refine tail_any (ops := [.ref s4.heap.objs.size, .str z t]) (typeIs_str _ _ _) F.slot_str_getitem.lookup ?_ (by with_unfolding_all rfl)
    obtain ⟨os, hos, hcs, hds⟩ := sl
    obtain ⟨l1, rfl, g1⟩ := IsPart.raw pl
    obtain ⟨l2, rfl, g2⟩ := IsPart.raw pu
    obtain ⟨l3, rfl, g3⟩ := IsPart.raw ps
    refine wpAny_getItem_str_slice (l := l1) (u := l2) (st := l3) ⟨os, hos, hcs, hds⟩ (by rw [g3]; rfl) ?_
    unfold sliceMade slicePicked
    rw [g1, g2, g3]
    show Made.post (if ((-1 : Int) == 1 && _) = true then _ else Made.str ⟨((Builtin.Str.strSliceIndices none none (-1) z.length).filterMap (z.cps[·]?)).toArray⟩) (EP X pins σ Q) _
    rw [if_neg (by simp), pick_revS]
    have hl : (revS z).length ≤ sizeLine := by
      show z.cps.toList.reverse.toArray.size ≤ sizeLine
      rw [List.size_toArray, List.length_reverse, Array.length_toList]
      exact hz
    exact ⟨hl, .str _, H4, I5.tok _, ⟨_, rfl⟩, q⟩
@[simp] def pRev (fe : FP) : FP := fun e => (fe e).bind fun r => match r.view with
  | .tup xs => some (.fz (.tup xs.reverse))
  | .str z => if z.length ≤ SZ then some (.fz (.str (revS z))) else none
  | _ => none
theorem pp_rev (he : PP X e fe) : PP X (.Subscript e (.Slice none none (some (.UnaryOp .USub (.Constant (.int 1) k p1) p2)) p3) pos) (pRev fe) := by
  obtain ⟨t, p, ke⟩ := he.run
  refine PP.of ⟨_, pe_rv p, fun W H σ e Q r sr hf kk => ?_⟩
  obtain ⟨r1, e1, hy⟩ := Option.bind_eq_some_iff.mp hf
  refine ke W H σ e _ r1 sr e1 fun v W1 H1 g1 k1 => ?_
  have hv := k1.vz
  have k' : KQ W1 X.K H1 r Q := fun v W' H' g2 k2 => kk v W' H' (g1.trans g2) (k2.back fun a h => g1.fresh h)
  revert hv hy
  generalize r1.view = d
  intro hy hv
  split at hy
  · cases hy
    obtain ⟨a, vs, rfl, h1, h2⟩ := hv
    exact .inl ⟨a, vs, rfl, h1.1, k'.tup g1.wm h2.reverse⟩
  · split at hy
    · rename_i z hz
      cases hy
      exact .inr ⟨z, hv, by rw [SZ_eq]; exact hz, k'.fz g1.wm rfl⟩
    · cases hy
  · cases hy
end
/-! ## zip -/
section
variable {X : Cx} {W : List Addr} {K : PySem.W.Frag} {H : Hp} {elts : List Expr} {kk : Nat} {tpos : Pos}
def zipD (xs ys : List D) : List D := List.zipWith (fun x y => D.tup [x, y]) xs ys
theorem zipD_at {xs ys : List D} {i : Nat} {d : D} (h : (zipD xs ys)[i]? = some d) : ∃ x y, xs[i]? = some x ∧ ys[i]? = some y ∧ d = .tup [x, y] := by
  unfold zipD at h
  rw [List.getElem?_zipWith] at h
  cases hx : xs[i]? with
  | none => rw [hx] at h; cases h
  | some x =>
    cases hy : ys[i]? with
    | none => rw [hx, hy] at h; cases h
    | some y =>
      rw [hx, hy] at h
      cases h
      exact ⟨x, y, rfl, rfl, rfl⟩
theorem zipD_len (xs ys : List D) : (zipD xs ys).length = min xs.length ys.length := by
  unfold zipD
  rw [List.length_zipWith]
theorem itAt_zipT {a b : Addr} {vs us : List V} {xs ys : List D} (wm : WM W H) (h1 : SqT K H a vs) (h2 : SqT K H b us) (r1 : RpL W K H xs vs) (r2 : RpL W K H ys us) : ItAt (.Tuple elts kk tpos) W K H (RZ.ItzT K a b) (zipD xs ys) := by
  refine ⟨fun i d e => ?_, vs, us, h1, h2, ?_⟩
  · obtain ⟨x, y, e1, e2, rfl⟩ := zipD_at e
    obtain ⟨v, v1, rv⟩ := r1.get e1
    obtain ⟨u, u1, ru⟩ := r2.get e2
    refine ⟨⟨vs, us, v, u, h1, h2, v1, u1⟩, fun z H' q => ?_⟩
    obtain ⟨T, p, q', rfl, hn, rfl, q1, q2⟩ := q
    have z1 := q1 vs h1
    have z2 := q2 us h2
    rw [v1] at z1
    rw [u1] at z2
    cases z1
    cases z2
    have g : Grow W H W (upd H T (.tup [v, u])) := .tup wm hn
    exact ⟨upd_keep hn, .inr ⟨[x, y], T, [v, u], rfl, rfl, .of upd_same, v, [u], rfl, Rp.mono (g.ex wm) x rv, u, [], rfl, Rp.mono (g.ex wm) y ru, rfl⟩⟩
  · rw [zipD_len, r1.length, r2.length]
    omega
theorem itAt_zipL {a b : Addr} {vs us : List V} {xs ys : List D} (wm : WM W H) (h1 : SqL K H a vs) (h2 : SqL K H b us) (r1 : RpL W K H xs vs) (r2 : RpL W K H ys us) : ItAt (.Tuple elts kk tpos) W K H (L2.Itz K a b) (zipD xs ys) := by
  refine ⟨fun i d e => ?_, vs, us, h1, h2, ?_⟩
  · obtain ⟨x, y, e1, e2, rfl⟩ := zipD_at e
    obtain ⟨v, v1, rv⟩ := r1.get e1
    obtain ⟨u, u1, ru⟩ := r2.get e2
    refine ⟨⟨vs, us, v, u, h1, h2, v1, u1⟩, fun z H' q => ?_⟩
    obtain ⟨T, p, q', rfl, hn, rfl, q1, q2⟩ := q
    have z1 := q1 vs h1
    have z2 := q2 us h2
    rw [v1] at z1
    rw [u1] at z2
    cases z1
    cases z2
    have g : Grow W H W (upd H T (.tup [v, u])) := .tup wm hn
    exact ⟨upd_keep hn, .inr ⟨[x, y], T, [v, u], rfl, rfl, .of upd_same, v, [u], rfl, Rp.mono (g.ex wm) x rv, u, [], rfl, Rp.mono (g.ex wm) y ru, rfl⟩⟩
  · rw [zipD_len, r1.length, r2.length]
    omega
@[simp] def zipX : List D → Option (List D × Bool)
  | [.tup xs, .tup ys] => some (zipD xs ys, true)
  | [.lst xs, .lst ys] => some (zipD xs ys, true)
  | _ => none
@[simp] def zipR (rs : List RV) : Option (List D × Bool) := (items rs).bind zipX
theorem items_two : ∀ {rs : List RV} {x y : D}, items rs = some [x, y] → ∃ r s, rs = [r, s] ∧ r.item = some x ∧ s.item = some y
  | [], x, y, h => by cases h
  | [r], x, y, h => by
    simp only [items] at h
    cases q : r.item with
    | none => rw [q] at h; cases h
    | some z => rw [q] at h; cases h
  | r :: s :: rs, x, y, h => by
    simp only [items] at h
    cases q : r.item with
    | none => rw [q] at h; cases h
    | some z =>
      rw [q] at h
      cases q2 : s.item with
      | none => rw [q2] at h; cases h
      | some z2 =>
        rw [q2] at h
        cases q3 : items rs with
        | none => rw [q3] at h; cases h
        | some zs =>
          rw [q3] at h
          cases zs with
          | cons a b => simp at h
          | nil =>
            cases rs with
            | nil =>
              simp at h
              exact ⟨r, s, rfl, by rw [q, h.1], by rw [q2, h.2]⟩
            | cons a b =>
              simp only [items] at q3
              cases q4 : a.item with
              | none => rw [q4] at q3; cases q3
              | some z4 =>
                rw [q4] at q3
                cases q5 : items b with
                | none => rw [q5] at q3; cases q3
                | some z5 => rw [q5] at q3; cases q3
@[simp] def iZip (fs : FA) : FI := fun e => (fs e).bind zipR
theorem ip_zip {a b : Expr} {p pos : Pos} {fs : FA} (hm : X.mg "zip" = none) (ha : PPs X [a, b] fs) (hg : Gl X "zip" := by rfl)
    (hs : starEach [a, b] X.env = (false, eval a X.env) :: starEach [b] X.env := by rfl) (hpl : (backTo pos (starEach [b] X.env)).any (·.1) = false := by rfl) : IP X (.Tuple elts kk tpos) (.Call (.Name "zip" p) [a, b] [] pos) (iZip fs) := by
  refine ⟨⟨fun pins s σ H R I ⟨W, e, ds, bb, sr, hf, k⟩ => ?_⟩⟩
  obtain ⟨rs, e1, hy⟩ := Option.bind_eq_some_iff.mp hf
  refine (RZ.pi_zipA hg hm ha.pa hs hpl).run pins s σ H R I ⟨W, e, rs, sr, e1, fun vs W1 H1 g1 k1 => ?_⟩
  obtain ⟨ds', e2, hy⟩ := Option.bind_eq_some_iff.mp hy
  have g0 := g1.base sr.wm
  unfold zipX at hy
  split at hy
  · cases hy
    obtain ⟨r, s, rfl, i1, i2⟩ := items_two e2
    obtain ⟨v, us, rfl, k1, v', us', rfl, k2, en⟩ := k1
    cases (show us' = [] from en)
    obtain ⟨a, xs, rfl, h1, r1⟩ := k1.item g1 sr.wm i1
    obtain ⟨b, ys, rfl, h2, r2⟩ := k2.item g1 sr.wm i2
    refine ⟨a, b, xs, ys, rfl, .inr ⟨h1.1, h2.1, k _ W H1 g0 fun W2 H2 h3 => ?_⟩⟩
    rcases h3 with g2 | ⟨_, x2, wm2⟩
    · exact itAt_zipT g2.wm ((g2.ex g0.wm).sqT h1.1) ((g2.ex g0.wm).sqT h2.1) (RpL.mono (g2.ex g0.wm) _ r1) (RpL.mono (g2.ex g0.wm) _ r2)
    · exact itAt_zipT wm2 (x2.sqT h1.1) (x2.sqT h2.1) (RpL.mono x2 _ r1) (RpL.mono x2 _ r2)
  · cases hy
    obtain ⟨r, s, rfl, i1, i2⟩ := items_two e2
    obtain ⟨v, us, rfl, k1, v', us', rfl, k2, en⟩ := k1
    cases (show us' = [] from en)
    obtain ⟨a, xs, rfl, h1, r1⟩ := k1.item g1 sr.wm i1
    obtain ⟨b, ys, rfl, h2, r2⟩ := k2.item g1 sr.wm i2
    refine ⟨a, b, xs, ys, rfl, .inl ⟨h1.seq, h2.seq, k _ W H1 g0 fun W2 H2 h3 => ?_⟩⟩
    rcases h3 with g2 | ⟨_, x2, wm2⟩
    · exact itAt_zipL g2.wm ((g2.ex g0.wm).lsF h1).seq ((g2.ex g0.wm).lsF h2).seq (RpL.mono (g2.ex g0.wm) _ r1) (RpL.mono (g2.ex g0.wm) _ r2)
    · exact itAt_zipL wm2 (x2.lsF h1).seq (x2.lsF h2).seq (RpL.mono x2 _ r1) (RpL.mono x2 _ r2)
  · cases hy
end
end DL

set_option maxHeartbeats 4000000
namespace DL
open PySem PySem.Spec PyProof.Rows L2
open PySem.W (Frag findIn typeIn keepIn subIn hasDictIn clsIn specialIn takesIn mroIn codeIn fnOf)
open PySem.HandSPX (refsVE refsVE_contains)

/-! ## own exceptions with one field -/
def eiA (f : Str) (p1 p2 : Pos) : Arguments := { posonlyargs := [], args := [{ arg := "self", annotation := none, pos := p1 }, { arg := f, annotation := none, pos := p2 }], vararg := none, kwonlyargs := [], kw_defaults := [], kwarg := none, defaults := [] }
def eiB (f : Str) (q1 q2 q3 q4 : Pos) : List Stmt := [.Assign [.Attribute (.Name "self" q1) f q2] (.Name f q3) q4]
def eiS (f : Str) : Scope := { kind := .function, names := [(PySem.Str.ofString "self", .local), (f, .local)], isGenerator := false, isCoroutine := false, more := [] }
def EBind (f qual : Str) : Prop := ∀ (kV doc pm : Value) (an : Option Addr) (cdv ct x v : Value) (p1 p2 q1 q2 q3 q4 : Pos),
  bindArgs (fnOf "__init__" qual (eiA f p1 p2) (eiB f q1 q2 q3 q4) (eiS f) .none kV doc pm an cdv ct) ⟨[x, v], []⟩ = pure [(PySem.Str.ofString "self", x), (f, v)]
/-- what K says of the class nm, at C, with its field f and its __init__ at fI -/
structure EC (K : Frag) (mg : Str → Option Value) (nm f qual : Str) (C fI : Addr) : Prop where
  ns : (f == ("self" : Str)) = false
  gC : mg nm = some (.ref C)
  cls : ∃ nm q N bs bm sn sub ab col dd k0 k1 k2 k3 k5, K.lookup C = some (excClassObj nm q C N bs bm true sn sub ab col dd k0 k1 k2 k3 k5 "ValueError.__new__") ∧ refsVE bm = true
  sa : findIn K (.ref C) "__setattr__" = some (some (.builtin "object.__setattr__"))
  ga : findIn K (.ref C) "__getattribute__" = some (some (.builtin "BaseException.__getattribute__"))
  gg : findIn K (.ref C) "__getattr__" = some none
  noN : findIn K (.ref C) f = some none
  iC : findIn K (.ref C) "__init__" = some (some (.ref fI))
  tC : typeIn K (.ref fI) = some (.type "function")
  kC : keepIn K (.ref C) = true
  exC : subIn K (.ref C) (.type "BaseException") = some true
  tyC : typeIn K (.ref C) = some (.type "type")
  hdC : hasDictIn K C = true
  ca : findIn K (.ref C) "__class__" = some (some (.builtin "object.__class__"))
  cn : specialIn K (.builtin "object.__class__") "__get__" = some (some (.builtin "getset_descriptor.__get__"))
  ck : takesIn K (.builtin "object.__class__") = some true
  cm : mroIn K C (.type "object") = some true
  bi : EBind f qual
  fn : ∃ (oc : Value) (od : Option Addr) (kV doc pm : Value) (an : Option Addr) (cdv ct : Value) (osl : Array (Option Value)) (p1 p2 q1 q2 q3 q4 : Pos),
    K.lookup fI = some ⟨oc, od, .func (fnOf "__init__" qual (eiA f p1 p2) (eiB f q1 q2 q3 q4) (eiS f) .none kV doc pm an cdv ct), osl⟩ ∧ codeIn K cdv qual = true
def clsB (K : Frag) (C : Addr) : Bool := match K.lookup C with
  | some ⟨.type "type", _, .cls cd, sl⟩ => (match cd.mro, sl.toList with
    | .ref C' :: bm, [_, _, _, _, some (.builtin n), _] => C' == C && n == "ValueError.__new__" && !cd.hasDel && cd.hasDict && refsVE bm
    | _, _ => false)
  | _ => false
theorem clsB_ok {K : Frag} {C : Addr} (q : clsB K C = true) : ∃ nm q N bs bm sn sub ab col dd k0 k1 k2 k3 k5, K.lookup C = some (excClassObj nm q C N bs bm true sn sub ab col dd k0 k1 k2 k3 k5 "ValueError.__new__") ∧ refsVE bm = true := by
  unfold clsB at q
  split at q
  rotate_left
  · cases q
  rename_i dd cd sl ho
  split at q
  rotate_left
  · cases q
  rename_i C' bm k0 k1 k2 k3 n k5 hm hs
  simp only [Bool.and_eq_true, beq_iff_eq, Bool.not_eq_true'] at q
  obtain ⟨⟨⟨⟨rfl, rfl⟩, hdel⟩, hdi⟩, ht⟩ := q
  obtain ⟨nm, bs, mro, ns, qn, hd, sn, sub, ab, col, del⟩ := cd
  dsimp only at hm hdel hdi
  subst hm hdel hdi
  have hsl : sl = #[k0, k1, k2, k3, some (.builtin "ValueError.__new__"), k5] := by
    obtain ⟨l⟩ := sl
    simp only at hs
    rw [hs]
  subst hsl
  exact ⟨nm, qn, ns, bs, bm, sn, sub, ab, col, dd, k0, k1, k2, k3, k5, ho, ht⟩
def eqq (a b : Option (Option Value)) : Bool := decide (a = b)
def eqv? (a b : Option Value) : Bool := decide (a = b)
/-- all but the written __init__ -/
def ecB (K : Frag) (nm f : Str) : Bool := clsB K (He.ga K nm) && (eqq (findIn K (.ref (He.ga K nm)) "__setattr__") (some (some (.builtin "object.__setattr__"))) && (eqq (findIn K (.ref (He.ga K nm)) "__getattribute__") (some (some (.builtin "BaseException.__getattribute__")))
  && (eqq (findIn K (.ref (He.ga K nm)) "__getattr__") (some none) && (eqq (findIn K (.ref (He.ga K nm)) f) (some none) && (eqq (findIn K (.ref (He.ga K nm)) "__init__") (some (some (.ref (He.ma K (He.ga K nm) "__init__")))) && (eqv? (typeIn K (.ref (He.ma K (He.ga K nm) "__init__"))) (some (.type "function"))
  && (keepIn K (.ref (He.ga K nm)) && (decide (subIn K (.ref (He.ga K nm)) (.type "BaseException") = some true) && (eqv? (typeIn K (.ref (He.ga K nm))) (some (.type "type")) && (hasDictIn K (He.ga K nm) && (eqq (findIn K (.ref (He.ga K nm)) "__class__") (some (some (.builtin "object.__class__")))
  && (eqq (specialIn K (.builtin "object.__class__") "__get__") (some (some (.builtin "getset_descriptor.__get__"))) && (decide (takesIn K (.builtin "object.__class__") = some true) && decide (mroIn K (He.ga K nm) (.type "object") = some true))))))))))))))
theorem ec_of {K : Frag} {mg : Str → Option Value} {nm f qual : Str} {params : Arguments} {body : List Stmt} {scope : Scope} {kws : List (Str × V)} {fd : FuncData} {p1 p2 q1 q2 q3 q4 : Pos} (hns : (f == ("self" : Str)) = false) (hm : mg nm = some (.ref (He.ga K nm))) (h : ecB K nm f = true)
    (FD : FunD K "__init__" qual params body scope [] kws (He.ma K (He.ga K nm) "__init__") fd) (e1 : params = eiA f p1 p2) (e2 : body = eiB f q1 q2 q3 q4) (e3 : scope = eiS f) (bi : EBind f qual := by intro _ _ _ _ _ _ _ _ _ _ _ _ _ _; first | rfl | with_unfolding_all rfl) : EC K mg nm f qual (He.ga K nm) (He.ma K (He.ga K nm) "__init__") := by
  unfold ecB at h
  simp only [Bool.and_eq_true] at h
  obtain ⟨a1, a2, a3, a4, a5, a6, a7, a8, a9, a10, a11, a12, a13, a14, a15⟩ := h
  obtain ⟨oc, od, dV, kV, doc, pm, an, cdv, ct, osl, e, lk, hcd, hD, hK⟩ := FD.ex
  have hd : dV = .none := by
    rcases hD with ⟨_, z⟩ | ⟨z, _⟩
    · exact z
    · exact absurd rfl z
  subst e hd e1 e2 e3
  exact ⟨hns, hm, clsB_ok a1, of_decide_eq_true a2, of_decide_eq_true a3, of_decide_eq_true a4, of_decide_eq_true a5, of_decide_eq_true a6, of_decide_eq_true a7, a8, of_decide_eq_true a9, of_decide_eq_true a10, a11, of_decide_eq_true a12, of_decide_eq_true a13,
    of_decide_eq_true a14, of_decide_eq_true a15, bi, oc, od, kV, doc, pm, an, cdv, ct, osl, p1, p2, q1, q2, q3, q4, lk, hcd⟩
/-! ### it is made -/
/-- behind __init__ -/
structure EInit (h h' : Heap) (x C dx t1 : Addr) (f : Str) (v : Value) : Prop where
  keep : ∀ b o, b ≠ x → h.get? b = some o → h'.get? b = some o
  obj : h'.get? x = some { cls := .ref C, dict := some dx, data := .fields #[.ref t1, .none, .none, .none, .bool false, .none] }
  big : h.objs.size ≤ dx
  ne : dx ≠ x
  ns : h'.Ns1 dx (fun y => if y = f then some v else none)
structure EMade (h h' : Heap) (e C d : Addr) (f : Str) (v : Value) : Prop where
  keep : ∀ b o, h.get? b = some o → h'.get? b = some o
  new : h.objs.size ≤ e
  obj : ∃ oe vs, h'.get? e = some oe ∧ oe.cls = .ref C ∧ oe.dict = some d ∧ oe.data = .fields vs ∧ vs[1]? = some .none
  big : h.objs.size ≤ d
  ne : d ≠ e
  ns : h'.Ns1 d (fun y => if y = f then some v else none)
section
variable {prog : Program} {w : World} {A : Around} {E : Value → Shared → Prop} {R : Result → Shared → Prop} {s : Shared} {K : Frag} {mg : Str → Option Value} {C fI : Addr} {nm f qual : Str}
theorem ld_loc {M : Model} {s : Shared} {name : Str} {scope : Scope} {L a : Addr} {cd : Value} {m : Str → Option Value} {x : Str} {pos : Pos} {v : Value} {Q : Value → Shared → Prop} {A : Around} {E : Value → Shared → Prop} (hn : s.heap.Ns L m) (hv : m x = some v) (h : Q v s)
    (hk : scope.kind = .function) (hl : (envOfC name scope L a cd).kindOf x = some .local) (hd : (x == ("__debug__" : Str)) = false) : wpAny M A (eval (.Name x pos) (envOfC name scope L a cd)) Q E s := wpAny_Name (wpAny_loadName_local hk hl hn hv h) hd
theorem e_init (T : EC K mg nm f qual C fI) (hdb : (f == ("__debug__" : Str)) = false) {x t0 : Addr} {v : Value} (X : K.In s.heap) (lim : s.heap.NoLimit) (hx : s.heap.get? x = some (HandSPX.excO C t0)) (hnx : K.lookup x = none) (room : A.depth < recursionLimit)
    (hq : ∀ h' tk dx, EInit s.heap h' x C dx t0 f v → R (.ok (.ret .none)) { s with heap := h', toks := tk }) : codeAny (model prog w) A (.call (.ref fI) ⟨[.ref x, v], []⟩) R s := by
  obtain ⟨oc, od, kV, doc, pm, an, cdv, ct, osl, p1, p2, q1, q2, q3, q4, ho, hcd⟩ := T.fn
  obtain ⟨nm', q, N, bs, bm, sn, sub, ab, col, dd, k0, k1, k2, k3, k5, hC, hbm⟩ := T.cls
  have fs : (f == PySem.Str.ofString "self") = false := T.ns
  have sf : (PySem.Str.ofString "self" == f) = false := by rw [beq_eq_false_iff_ne] at fs ⊢; exact fun z => fs z.symm
  have look : ∀ y, (eiS f).names.lookup y = if y == PySem.Str.ofString "self" then some .local else if y == f then some .local else none := fun y => by
    show List.lookup y [(PySem.Str.ofString "self", NameKind.local), (f, .local)] = _
    unfold List.lookup
    cases y == PySem.Str.ofString "self" with
    | true => rfl
    | false =>
      unfold List.lookup
      cases y == f <;> rfl
  have lf : (eiS f).names.lookup f = some .local := by rw [look, fs]; simp
  have ls : (eiS f).names.lookup (PySem.Str.ofString "self") = some .local := by rw [look]; simp
  have clsd : clsIn K C = some { name := nm', bases := bs, mro := .ref C :: bm, ns := N, qualname := q, hasDict := true, slotNames := sn, subclasses := sub, abstract := ab, collection := col, hasDel := false } := by unfold clsIn; rw [hC] <;> rfl
  refine Att.call_fn (binds := [(PySem.Str.ofString "self", .ref x), (f, v)]) X lim ho hcd room (BindsTo.of_eq (T.bi kV doc pm an cdv ct (.ref x) v p1 p2 q1 q2 q3 q4)) (by simp [lf, ls]) (fun s₁ IC => ?_) rfl rfl rfl
  obtain ⟨h1, tk1, rfl⟩ := IC.toInCall.same
  have kp : ∀ b o, s.heap.get? b = some o → h1.get? b = some o := IC.toInCall.keep
  have hn := IC.toInCall.ns
  have X1 : K.In h1 := X.keeps kp
  have hx1 := kp _ _ hx
  have nd : [PySem.Str.ofString "self", f].Nodup := by
    rw [List.nodup_cons]
    refine ⟨fun z => ?_, by simp⟩
    rw [List.mem_singleton] at z
    rw [z] at sf
    simp at sf
  show wpAny _ _ (execs _ _) _ _ _
  refine wpAny_execs_cons (plainObj_wpAny_Assign_Attribute ?_)
  refine ld_loc (v := v) hn (bindL_get (P := [PySem.Str.ofString "self", f]) (vs := [.ref x, v]) (i := 1) nd rfl rfl lf) ?_ rfl lf hdb
  refine ld_loc (v := .ref x) hn (bindL_get (P := [PySem.Str.ofString "self", f]) (vs := [.ref x, v]) (i := 0) nd rfl rfl ls) ?_ rfl ls (by decide)
  refine PySem.W.set_plain X1 (ox := HandSPX.excO C t0) (od := none) ⟨hx1, rfl, rfl, trivial⟩ T.sa ?_
  refine HandSPX.exc_osa X1 hx1 clsd (show refsVE (.ref C :: bm) = true from hbm) rfl T.noN (fun h3 tk3 dx k3 dn dne hx3 hn3 => ?_)
  show wpAny _ _ (execs _ _) _ _ _
  have z : s.heap.objs.size < h1.objs.size := hn.lt
  exact wpAny_execs_nil (hq h3 tk3 dx ⟨fun b o hb e => k3 b o hb (kp b o e), hx3, Nat.le_of_lt (Nat.lt_of_lt_of_le z dn), dne, hn3⟩)
theorem e_made (T : EC K mg nm f qual C fI) (hdb : (f == ("__debug__" : Str)) = false) {v : Value} (X : K.In s.heap) (lim : s.heap.NoLimit) (room : A.depth + 1 < recursionLimit)
    (hq : ∀ h' tk e d, EMade s.heap h' e C d f v → R (.ok (.ret (.ref e))) { s with heap := h', toks := tk }) : codeAny (model prog w) A (.call (.ref C) ⟨[v], []⟩) R s := by
  obtain ⟨nm', q, N, bs, bm, sn, sub, ab, col, dd, k0, k1, k2, k3, k5, hC, hbm⟩ := T.cls
  obtain ⟨hp, g, dr, tk, os⟩ := s
  have kp : ∀ b o, hp.get? b = some o → ((hp.push (PySem.W.kdv_tup [v])).push (HandSPX.excO C hp.objs.size)).get? b = some o := fun b o e => Heap.get?_push_of_some _ (Heap.get?_push_of_some _ e)
  have got : ((hp.push (PySem.W.kdv_tup [v])).push (HandSPX.excO C hp.objs.size)).get? (hp.objs.size + 1) = some (HandSPX.excO C hp.objs.size) := by heap_get
  have notK : K.lookup (hp.objs.size + 1) = none := by
    cases e : K.lookup (hp.objs.size + 1) with
    | none => rfl
    | some o =>
      have z : hp.get? (hp.objs.size + 1) = some o := X _ _ e
      exact absurd (Nat.lt_of_succ_lt (Heap.lt_size z)) (Nat.lt_irrefl _)
  refine HandSPX.call_own PySem.F.excBase_ValueError (fun T => refsVE_contains T bm hbm) (X _ _ hC) (PySem.W.looks_findIn X T.iC) (fun self => PySem.W.bind_fn X self T.tC) (by rw [sizeLine_eq]; exact (by decide : 1 ≤ 16777216)) ?_
  refine e_init (s := ⟨(hp.push (PySem.W.kdv_tup [v])).push (HandSPX.excO C hp.objs.size), g, dr, tk, os⟩) T hdb (X.keeps kp) (lim.keeps kp) got notK ?_ fun h' tk' dx ⟨k', hx, dn, dne, hns⟩ => ?_
  · show A.depth + 1 < recursionLimit
    exact room
  · have old : ∀ b o, hp.get? b = some o → h'.get? b = some o := fun b o e => k' b o (Nat.ne_of_lt (Nat.lt_succ_of_lt (Heap.lt_size e))) (kp b o e)
    have z : hp.objs.size + 1 + 1 ≤ dx := by
      first
        | (simpa only [Heap.size_push] using dn)
        | exact dn
    exact ⟨rfl, hq h' tk' (hp.objs.size + 1) dx ⟨old, Nat.le_succ _, ⟨_, _, hx, rfl, rfl, rfl, rfl⟩, (by show hp.objs.size ≤ dx; omega), dne, hns⟩⟩
end
theorem relO_one {v : V} {v' : Value} {g : Str} (r : RelV v v') (f : Str) : RelO (List.lookup f [(g, v)]) (if f = g then some v' else none) := by
  by_cases hw : f = g
  · subst hw
    rw [if_pos rfl]
    have q : List.lookup f [(f, v)] = some v := by simp [List.lookup]
    rw [q]
    exact r
  · rw [if_neg hw]
    have qw : (f == g) = false := by simpa using hw
    have q2 : List.lookup f [(g, v)] = none := by simp [List.lookup, qw]
    rw [q2]
    trivial
section
variable {X : Cx} {C fI : Addr} {nm f qual : Str} {Wx : WX} {lk : List Nat} {a : Expr} {fa : FM}
def tMkE (f : Str) (C : Addr) (ta : TA) : St → Hp → XK → Prop := fun σ H Q => ta σ H fun vs H1 => ∃ v, vs = [v] ∧ ∀ d, H1 d = none → Q (.ref C) (some d) (upd H1 d (.xd [(f, v)]))
theorem pmk_e {ta : TA} {p pos : Pos} {k : Nat} (T : EC X.K X.mg nm f qual C fI) (hdb : (f == ("__debug__" : Str)) = false) (hr : Room k X.A) (ha : PA X [a] ta) (hg : Gl X nm) (hdn : (nm == ("__debug__" : Str)) = false)
    (he : starEach (a :: []) X.env = (false, eval a X.env) :: starEach [] X.env := by rfl) (hpl : (backTo pos (starEach [] X.env)).any (·.1) = false := by rfl) : PMk X (.Call (.Name nm p) [a] [] pos) (tMkE f C ta) := by
  intro pins s σ H Q I h
  refine wpAny_Call_Name_kw (ld_glob I hg T.gC ?_ hdn)
  refine PySem.W.callWith_K (h₀ := X.base) I.ok.mod.kin T.kC (thn (ha.run pos pins s σ H _ I h) fun us s1 hh => ?_) he hpl
  obtain ⟨vs, H1, I1, r1, v, ev, q1⟩ := hh
  subst ev
  refine ⟨I1.kIn, ?_⟩
  cases r1 with
  | cons rv rn =>
    rename_i v' us'
    cases rn
    show wpAny _ _ (call (.ref C) [v']) _ _ _
    have lim := I1.nolimit
    obtain ⟨hp, g, dr, tk, os⟩ := s1
    refine wpAny_call (e_made T hdb I1.kIn lim (by have := hr.dp; omega) fun h' tk' e d M => ?_)
    show MkP X pins σ Q (.ref e) ⟨h', g, dr, tk', os⟩
    obtain ⟨oe, fv, hoe, hc, hd, hdat, h1⟩ := M.obj
    have hns := M.ns
    obtain ⟨G', g1, g2⟩ := restrict h' fun b => decide (b ≠ e)
    have gk : ∀ b, b ≠ e → G'.get? b = h'.get? b := fun b hb => g1 b (decide_eq_true hb)
    have ge : G'.get? e = none := g2 e (by simp)
    have old : ∀ b o, hp.get? b = some o → G'.get? b = some o := fun b o q => (gk b (Nat.ne_of_lt (Nat.lt_of_lt_of_le (Heap.lt_size q) M.new))).trans (M.keep b o q)
    have ob : ObjOk X.prog X.w (upd H1 d (.xd [(f, v)])) G' d (.xd [(f, v)]) := ⟨_, hns.at (fun o q => (gk d M.ne).trans q), fun y => relO_one rv y⟩
    have J : Inv X pins σ (upd H1 d (.xd [(f, v)])) ⟨G', g, dr, tk', os⟩ := I1.laid (t' := tk') old M.big ob
    refine ⟨e, oe, fv, ⟨G', g, dr, tk', os⟩, _, .ref C, some d, rfl, J, fun b o q => ?_, ge, hoe, ⟨hc, hd⟩, hdat, h1, ?_, rfl, I1.bare, raises_own T.exC T.tyC, q1 d (I1.hok.fresh M.big)⟩
    · by_cases hb : b = e
      · have q' : G'.get? b = some o := q
        rw [hb, ge] at q'
        cases q'
      · exact (gk b hb).symm.trans q
    · rw [upd_ne (Ne.symm M.ne)]
      exact I1.hok.fresh M.new
/-- raise Nm(a) -/
@[simp] def sRaise (nm f : Str) (fa : FM) : FS := fun e => (fa e).st fun s e1 => .ex ⟨nm, [(f, s.view)]⟩ e1
theorem sd_raise {p pos pos2 : Pos} {k : Nat} (hc : X.calm = true) (T : EC X.K X.mg nm f qual C fI) (hr : Room k X.A) (tk : Takes X Wx) (ha : PM X Wx a fa) (hdb : (f == ("__debug__" : Str)) = false := by decide) (hg : Gl X nm := by rfl) (hdn : (nm == ("__debug__" : Str)) = false := by decide)
    (he : starEach (a :: []) X.env = (false, eval a X.env) :: starEach [] X.env := by rfl) (hpl : (backTo pos (starEach [] X.env)).any (·.1) = false := by rfl) : SD X Wx lk (.Raise (some (.Call (.Name nm p) [a] [] pos)) none pos2) (sRaise nm f fa) := by
  obtain ⟨t, pa, ka⟩ := ha.run
  refine SD.of ⟨_, ps_raise hc tk (pmk_e T hdb hr (pa_cons pa pa_nil he) hg hdn he hpl), fun W H σ e D sr h => ?_⟩
  refine ka W H σ e _ sr (DK.st sr.wm h fun s v e1 W1 H1 sr1 x1 r h1 => ?_)
  refine ⟨v, rfl, fun d hd => ?_⟩
  have g : Grow W1 H1 W1 (upd H1 d (.xd [(f, v)])) := .of sr1.wm (upd_keep hd)
  exact h1 (.ref C) (some d) W1 _ σ (g.sr sr1) (g.fx sr1) (fun _ _ => rfl) ⟨T.gC, .inr ⟨d, _, rfl, upd_same, rfl, v, [], rfl, Rp.mono (g.ex sr1.wm) _ r, rfl⟩⟩
end
end DL

set_option maxHeartbeats 4000000
namespace DL
open PySem PySem.Spec PyProof.Rows L2

/-! ## in an except suite -/
def tX (K : PySem.W.Frag) (mg : Str → Option Value) (i : Nat) (a : Addr) (cls : Value) (d : Option Addr) (f : XD → FP) : TE := fun σ H Q => ∃ (W : List Addr) (e : En) (x : XD) (r : RV), SR W K H σ e ∧ σ[i]? = some (some (.ref a)) ∧ XR mg W K H x cls d ∧ f x e = some r ∧
  ∀ v W' H', Grow W H W' H' → RVok W' K H H' r v → Q v H'
/-- the suite's context -/
abbrev Cx.su (X : Cx) (a : Addr) (oe : Obj) (pn : List (Addr × Obj)) : Cx := X.suite a ((a, oe) :: pn)
/-- whatever exception is held -/
structure PX (X : Cx) (i : Nat) (ex : Expr) (f : XD → FP) : Prop where
  run : ∀ (a : Addr) (oe : Obj) (cls : Value) (d : Option Addr) (pn : List (Addr × Obj)), Zc cls d oe → (∃ vs, oe.data = .fields vs) → PE (X.suite a ((a, oe) :: pn)) ex (tX X.K X.mg i a cls d f)
structure PXs (X : Cx) (i : Nat) (es : List Expr) (f : XD → FA) : Prop where
  run : ∀ (a : Addr) (oe : Obj) (cls : Value) (d : Option Addr) (pn : List (Addr × Obj)), Zc cls d oe → (∃ vs, oe.data = .fields vs) → PA (X.suite a ((a, oe) :: pn)) es (fun σ H Q => ∃ (W : List Addr) (e : En) (x : XD) (rs : List RV), SR W X.K H σ e ∧ σ[i]? = some (some (.ref a)) ∧
    XR X.mg W X.K H x cls d ∧ f x e = some rs ∧ ∀ vs W' H', Grow W H W' H' → RVs W' X.K H H' rs vs → Q vs H')
section
variable {W W' : List Addr} {K : PySem.W.Frag} {mg : Str → Option Value} {H H' : Hp} {x : XD} {cls : Value} {d : Option Addr}
theorem XR.grow (g : Grow W H W' H') (wm : WM W H) (r : XR mg W K H x cls d) : XR mg W' K H' x cls d := by
  obtain ⟨h1, h2⟩ := r
  refine ⟨h1, ?_⟩
  rcases h2 with ⟨a, b⟩ | ⟨dd, fv, e1, e2, e3, e4⟩
  · exact .inl ⟨a, b⟩
  · exact .inr ⟨dd, fv, e1, g.keep _ _ e2, e3, RpL.mono (g.ex wm) _ e4⟩
end
section
variable {X : Cx} {i : Nat} {a : Expr} {es : List Expr} {fa : FP} {fx : XD → FP} {fs : XD → FA} {pos : Pos}
theorem px_pp (h : ∀ (a' : Addr) (oe : Obj) (pn : List (Addr × Obj)), PP (X.suite a' ((a', oe) :: pn)) a fa) : PX X i a (fun _ => fa) :=
  ⟨fun a' oe cls d pn hz hf => ⟨fun pins s σ H Q I ⟨W, e, x, r, sr, hi, xr, hfx, k⟩ => (h a' oe pn).pe.run pins s σ H Q I ⟨W, e, r, sr, hfx, k⟩⟩⟩
theorem pxs_nil : PXs X i [] (fun _ => aNil) :=
  ⟨fun a' oe cls d pn hz hf => ⟨fun pos pins s σ H Q I ⟨W, e, x, rs, sr, hi, xr, hfx, k⟩ => by cases hfx; exact pa_nil.run pos pins s σ H Q I (k [] W H (.refl sr.wm) rfl)⟩⟩
theorem pxs_cons (ha : PX X i a fx) (hr : PXs X i es fs) (hs : ∀ (a' : Addr) (oe : Obj) (pn : List (Addr × Obj)), starEach (a :: es) (X.suite a' ((a', oe) :: pn)).env = (false, eval a (X.suite a' ((a', oe) :: pn)).env) :: starEach es (X.suite a' ((a', oe) :: pn)).env := by intro _ _ _; rfl) :
    PXs X i (a :: es) (fun x => aCons (fx x) (fs x)) := by
  refine ⟨fun a' oe cls d pn hz hf => ⟨fun pos pins s σ H Q I ⟨W, e, x, rs, sr, hi, xr, hfx, k⟩ => ?_⟩⟩
  obtain ⟨r1, e1, hy⟩ := Option.bind_eq_some_iff.mp hfx
  obtain ⟨r2, e2, hw⟩ := Option.map_eq_some_iff.mp hy
  subst hw
  refine (pa_cons (ha.run a' oe cls d pn hz hf) (hr.run a' oe cls d pn hz hf) (hs a' oe pn)).run pos pins s σ H Q I ⟨W, e, x, r1, sr, hi, xr, e1, fun v W1 H1 g1 k1 => ?_⟩
  exact ⟨W1, e, x, r2, g1.sr sr, hi, xr.grow g1 sr.wm, e2, fun vs W' H' g2 k2 => k _ W' H' (g1.trans g2) ⟨v, vs, rfl, k1.grow g2 g1.wm, k2.back fun a h => g1.fresh h⟩⟩
theorem px_lst (h : PXs X i es fs) : PX X i (.List es pos) (fun x => pLst (fs x)) := by
  refine ⟨fun a' oe cls d pn hz hf => ⟨fun pins s σ H Q I ⟨W, e, x, r, sr, hi, xr, hfx, k⟩ => (pe_lst (h.run a' oe cls d pn hz hf)).run pins s σ H Q I ?_⟩⟩
  obtain ⟨rs, e1, hy⟩ := Option.bind_eq_some_iff.mp hfx
  obtain ⟨xs, e2, hw⟩ := Option.bind_eq_some_iff.mp hy
  split at hw
  · rename_i hz
    cases hw
    refine ⟨W, e, x, rs, sr, hi, xr, e1, fun vs W1 H1 g1 k1 => ?_⟩
    have q := k1.items g1 sr.wm e2
    refine ⟨by rw [SZ_eq, ← q.length]; exact hz, fun pp hn => ?_⟩
    have g0 := g1.base sr.wm
    exact KQ.fr (Q := Q) g0.wm (fun v W' H' g3 k3 => k v W' H' (g0.trans g3) (k3.back fun a h => g0.fresh h)) q pp hn
  · cases hw
theorem px_tup {x1} (h : PXs X i es fs) : PX X i (.Tuple es x1 pos) (fun x => pTup (fs x)) := by
  refine ⟨fun a' oe cls d pn hz hf => ⟨fun pins s σ H Q I ⟨W, e, x, r, sr, hi, xr, hfx, k⟩ => (pe_tupN (h.run a' oe cls d pn hz hf)).run pins s σ H Q I ?_⟩⟩
  obtain ⟨rs, e1, hy⟩ := Option.bind_eq_some_iff.mp hfx
  obtain ⟨xs, e2, hw⟩ := Option.bind_eq_some_iff.mp hy
  split at hw
  · rename_i hz
    cases hw
    refine ⟨W, e, x, rs, sr, hi, xr, e1, fun vs W1 H1 g1 k1 => ?_⟩
    have q := k1.items g1 sr.wm e2
    refine ⟨by rw [SZ_eq, ← q.length]; exact hz, ?_⟩
    have g0 := g1.base sr.wm
    exact KQ.tup (Q := Q) g0.wm (fun v W' H' g3 k3 => k v W' H' (g0.trans g3) k3) q
  · cases hw
/-- e.f -/
@[simp] def xFld (nm f : Str) : XD → FP := fun x _ => if x.cls = nm then (match x.fs with
  | [(g, y)] => if g = f then some (.fz y) else none
  | _ => none) else none
theorem px_fld {nm f qual : Str} {C fI : Addr} {n : Str} {pn pa : Pos} (T : EC X.K X.mg nm f qual C fI) (hN : X.N[i]? = some n := by rfl) (hv : Vis X.env.scope n := by first | exact Or.inl rfl | exact Or.inr (Or.inl rfl)) (hd : (n == ("__debug__" : Str)) = false := by decide)
    (hcd : (n == ("__classdict__" : Str)) = false := by decide) (hb : attributeBase (.Name n pn) f X.env (eval (.Name n pn) X.env) = eval (.Name n pn) X.env := by rfl) : PX X i (.Attribute (.Name n pn) f pa) (xFld nm f) := by
  refine ⟨fun a oe cls d pn hz hf => ⟨fun pins s σ H Q I ⟨W, e, x, r, sr, hi, xr, hfx, k⟩ => ?_⟩⟩
  refine attr_of hb (thn ((pe_var (X := X.suite a ((a, oe) :: pn)) hN hv hd hcd).run pins s σ H (fun v H1 => v = .ref a ∧ H1 = H) I ⟨_, hi, rfl, rfl⟩) fun u s1 ⟨v, H1, I1, rv, ev, eH⟩ => ?_)
  subst ev eH
  obtain rfl : u = Value.ref a := rv
  unfold xFld at hfx
  split at hfx
  rotate_left
  · cases hfx
  rename_i hc
  split at hfx
  rotate_left
  · cases hfx
  rename_i g y hfs
  split at hfx
  rotate_left
  · cases hfx
  rename_i hg
  cases hfx
  subst hg
  obtain ⟨xm, xf⟩ := xr
  rw [hc, T.gC] at xm
  cases xm
  rcases xf with ⟨z, _⟩ | ⟨dd, fv, ed, hdd, hn, rp⟩
  · rw [hfs] at z; cases z
  subst ed
  rw [hfs] at hn rp
  obtain ⟨w, fr, efv, rw1, rw2⟩ := rp
  have e0 : fr = [] := rw2
  subst e0
  have fv1 : fv = [(g, w)] := by
    cases fv with
    | nil => cases hn
    | cons p r =>
      cases r with
      | nil =>
        obtain ⟨p1, p2⟩ := p
        have h1 : p1 = g := (List.cons.inj hn).1
        have h2 : p2 = w := (List.cons.inj efv).1
        rw [h1, h2]
      | cons _ _ => simp at hn
  subst fv1
  obtain ⟨ha, _⟩ := I1.pin (a, oe) (List.mem_append_left _ List.mem_cons_self)
  obtain ⟨vs, hdat⟩ := hf
  have hx : ObjOk X.prog X.w H1 s1.heap dd (.xd [(g, w)]) := I1.hok dd _ hdd
  obtain ⟨mA, hns, hr⟩ := hx
  obtain ⟨od, ho, hl⟩ := lookIn_ns hns
  have l : List.lookup g [(g, w)] = some w := by simp [List.lookup]
  obtain ⟨u, hu, ru⟩ := RelO.some_of (v := w) (o := mA g) (by rw [← l]; exact hr g)
  have J : PySem.W.InstAt s1.heap a oe C (some od) := ⟨ha, hz.1, by unfold PySem.W.notCls; rw [hdat] <;> rfl, by rw [hz.2]; exact ho⟩
  exact HandSPX.exc_get I1.kIn J T.ga T.gg T.exC (PySem.W.findObj_own T.hdC T.noN rfl (by rw [hl, hu])) (handed_of ru) ⟨w, H1, I1.tok _, ru, k w W H1 (.refl sr.wm) rw1⟩
/-- isinstance(e, D) for the class's instances -/
@[simp] def xIsi (nm : Str) (b : Bool) : XD → FP := fun x _ => if x.cls = nm then some (.fz (.bl b)) else none
theorem px_isi {nm f qual : Str} {C fI : Addr} {n y : Str} {b : Bool} {cv : Value} {dv : V} {p pn py pos : Pos} (T : EC X.K X.mg nm f qual C fI) (hm : X.mg "isinstance" = none) (hy : X.mg y = some cv) (hrel : RelV dv cv) (huniq : ∀ u, RelV dv u → u = cv) (hk : PySem.W.kitOne X.K (.ref C) cv = some b) (hN : X.N[i]? = some n := by rfl) (hv : Vis X.env.scope n := by first | exact Or.inl rfl | exact Or.inr (Or.inl rfl))
    (hd : (n == ("__debug__" : Str)) = false := by decide) (hcd : (n == ("__classdict__" : Str)) = false := by decide) (hg : Gl X "isinstance" := by rfl) (hgy : Gl X y := by rfl) (hdy : (y == ("__debug__" : Str)) = false := by decide) (hb : bootBuiltins "isinstance" = some (.builtin "isinstance") := by decide +kernel)
    (s1 : starEach [.Name n pn, .Name y py] X.env = (false, eval (.Name n pn) X.env) :: starEach [.Name y py] X.env := by rfl) (s2 : starEach [.Name y py] X.env = (false, eval (.Name y py) X.env) :: starEach [] X.env := by rfl)
    (hpl : (backTo pos (starEach [.Name y py] X.env)).any (·.1) = false := by rfl) : PX X i (.Call (.Name "isinstance" p) [.Name n pn, .Name y py] [] pos) (xIsi nm b) := by
  refine ⟨fun a oe cls d pnn hz hf => ?_⟩
  obtain ⟨oc, od, oda, osl⟩ := oe
  obtain ⟨vs, hdat⟩ := hf
  obtain ⟨hz1, hz2⟩ := hz
  dsimp only at hz1 hz2 hdat
  subst hz1 hz2 hdat
  have call : CallR (X.suite a ((a, ⟨oc, od, .fields vs, osl⟩) :: pnn)) (.builtin "isinstance") (fun xs H Q => xs = [.ref a, dv] ∧ oc = .ref C ∧ (∀ dd, od = some dd → ∃ fv, H dd = some (.xd fv)) ∧ Q (.bl b) H) := by
    intro pins s σ H xs us Q I r h
    obtain ⟨rfl, hc, hdd, q⟩ := h
    cases r with
    | cons rx rr =>
      cases rr with
      | cons rt rr =>
        cases rr
        cases rx
        have ec := huniq _ rt
        subst ec hc
        obtain ⟨hget, _⟩ := I.pin (a, ⟨.ref C, od, .fields vs, osl⟩) (List.mem_append.mpr (.inl List.mem_cons_self))
        have J : ∃ oD, PySem.W.InstAt s.heap a ⟨.ref C, od, .fields vs, osl⟩ C oD := by
          cases od with
          | none => exact ⟨none, hget, rfl, rfl, trivial⟩
          | some dd =>
            obtain ⟨fv, hfv⟩ := hdd dd rfl
            have hx : ObjOk X.prog X.w H s.heap dd (.xd fv) := I.hok dd _ hfv
            obtain ⟨mA, hns, hr⟩ := hx
            obtain ⟨oD, ho, hl⟩ := lookIn_ns hns
            exact ⟨some oD, hget, rfl, rfl, ho⟩
        obtain ⟨oD, J⟩ := J
        obtain ⟨cdd, hcd, _⟩ := PySem.W.any_some T.hdC
        exact PySem.W.kia_one (PySem.W.kitx_exc (by rw [hcd]; rfl) T.ga T.gg T.exC T.ca T.cn T.ck T.cm) I.kIn J hk (fun z => nomatch z) fun tk => ⟨.bl b, H, I.kept (t' := tk) fun _ _ z => z, rfl, q⟩
  refine ⟨fun pins s σ H Q I ⟨W, e, x, r, sr, hi, xr, hfx, k⟩ => ?_⟩
  refine (pe_callB (X := X.suite a ((a, ⟨oc, od, .fields vs, osl⟩) :: pnn)) call hg hm hb (pa_cons (pe_var hN hv hd hcd) (pa_cons (pe_glob hgy hy hrel hdy) pa_nil s2) s1) (by decide) (by decide) s1 hpl).run pins s σ H Q I ?_
  unfold xIsi at hfx
  split at hfx
  rotate_left
  · cases hfx
  rename_i hc
  cases hfx
  obtain ⟨xm, xf⟩ := xr
  rw [hc, T.gC] at xm
  cases xm
  refine ⟨_, hi, rfl, rfl, fun dd ed => ?_, k _ W H (.refl sr.wm) rfl⟩
  rcases xf with ⟨_, z⟩ | ⟨d2, fv, e2, h2, _⟩
  · rw [z] at ed; cases ed
  · rw [e2] at ed; cases ed; exact ⟨fv, h2⟩
end
end DL

set_option maxHeartbeats 4000000
namespace DL
open PySem PySem.Spec PyProof.Rows L2

/-! ## try: .. except C as n: .. -/
/-- the suite, by the exception -/
abbrev FX := XD → FS
structure SX (X : Cx) (lk : List Nat) (i : Nat) (st : List Stmt) (f : FX) : Prop where
  run : ∀ (a : Addr) (oe : Obj) (cls : Value) (d : Option Addr) (pn : List (Addr × Obj)), Zc cls d oe → (∃ vs, oe.data = .fields vs) → PSs (X.suite a ((a, oe) :: pn)) st (fun D σ H => ∃ (W : List Addr) (e : En) (x : XD), SR W X.K H σ e ∧ σ[i]? = some (some (.ref a)) ∧
    XR X.mg W X.K H x cls d ∧ FlK X.K X.mg noW lk W H σ e D (f x e))
@[simp] def Fl.gone (i : Nat) : Fl → Fl
  | .nx e => .nx (e.set i none)
  | .bk e => .bk (e.set i none)
  | .ct e => .ct (e.set i none)
  | .rt s e => .rt s e
  | _ => .stuck
@[simp] def sTry (cm : Str → Option Bool) (i : Nat) (fb : FS) (fx : FX) : FS := fun e => match fb e with
  | .ex x e1 => (match cm x.cls with
    | some b => if b = true then (if i < e1.length then (fx x (e1.set i none)).gone i else .stuck) else .ex x e1
    | none => .stuck)
  | o => o
section
variable {W : List Addr} {K : PySem.W.Frag} {mg : Str → Option Value} {H : Hp} {σ : St} {e : En}
theorem setN_at {e : En} {i j : Nat} {s : S} (h : (e.set i none)[j]? = some (some s)) : i ≠ j ∧ e[j]? = some (some s) := by
  by_cases z : i = j
  · subst z
    by_cases hl : i < e.length
    · rw [List.getElem?_set_self hl] at h; cases h
    · rw [List.getElem?_eq_none (by simpa using hl)] at h; cases h
  · rw [List.getElem?_set_ne z] at h
    exact ⟨z, h⟩
theorem SR.setN (r : SR W K H σ e) (i : Nat) (v : Option V) : SR W K H (σ.set i v) (e.set i none) where
  wm := r.wm
  len := by rw [List.length_set, List.length_set, r.len]
  sl := fun j s h => by
    obtain ⟨z, q⟩ := setN_at h
    obtain ⟨u, h1, h2⟩ := r.sl j s q
    exact ⟨u, by rw [List.getElem?_set_ne z]; exact h1, h2⟩
  one := fun j k s t a h1 h2 o1 o2 p1 p2 => by
    obtain ⟨z1, q1⟩ := setN_at h1
    obtain ⟨z2, q2⟩ := setN_at h2
    rw [List.getElem?_set_ne z1] at p1
    rw [List.getElem?_set_ne z2] at p2
    exact r.one j k s t a q1 q2 o1 o2 p1 p2
theorem Ow.setN {i : Nat} {v : Option V} {a : Addr} (o : Ow (σ.set i v) (e.set i none) a) : Ow σ e a := by
  obtain ⟨j, s, h1, h2, h3⟩ := o
  obtain ⟨z, q⟩ := setN_at h1
  rw [List.getElem?_set_ne z] at h3
  exact ⟨j, s, q, h2, h3⟩
end
section
variable {X : Cx} {Wx : WX} {lk : List Nat} {i : Nat} {a : Expr} {fx : XD → FP} {stm : Stmt} {sts : List Stmt} {pos : Pos}
theorem sd_try {x n : Str} {c : Value} {body suite : List Stmt} {b₀ : Stmt} {np pos pos' : Pos} {cm : Str → Option Bool} {fb : FS} {fX : FX} (hs : X.stack = X.env :: X.outer) (hf : X.env.frame = some X.env.locals) (hNd : X.N.Nodup) (hc : Names X x c) (tk : Takes X Wx)
    (hcm : ∀ nm b cls, cm nm = some b → X.mg nm = some cls → PySem.W.exmOne X.K cls c = some b)
    (hb : ∀ (W : WX) (pn : List (Addr × Obj)) (xe : Value → Shared → Prop), Takes (X.tr pn xe) W → PassesOwn (model X.prog X.w) X.A X.env xe → SDs (X.tr pn xe) W lk body fb)
    (hsu : SX X lk i (b₀ :: suite) fX) (hlk : i ∉ lk := by decide) (hi : X.N[i]? = some n := by rfl) (hln : X.env.kindOf n = some .local := by rfl) :
    SD X Wx lk (.Try body [.ExceptHandler (some (.Name x np)) (some n) (b₀ :: suite) pos'] [] [] pos) (sTry cm i fb fX) := by
  refine SD.of ⟨_, ps_try_as (Wout := Wx) (tb := fun W => tS X.K X.mg W lk fb) (ts := fun a cls d D σ H => ∃ (W : List Addr) (e : En) (x : XD), SR W X.K H σ e ∧ σ[i]? = some (some (.ref a)) ∧ XR X.mg W X.K H x cls d ∧ FlK X.K X.mg noW lk W H σ e D (fX x e))
    hs hf hNd hi hln hc tk (fun W pn xe t p => (hb W pn xe t p).ps) (fun a oe cls d pn hz hd => hsu.run a oe cls d pn hz hd), fun W H σ e D sr h => ?_⟩
  refine ⟨W, e, sr, ?_⟩
  unfold sTry at h
  revert h
  generalize fb e = fl
  intro h
  cases fl with
  | stuck => exact h
  | nx e1 => exact h
  | bk e1 => exact h
  | ct e1 => exact h
  | rt s e1 => exact h
  | ex z e1 =>
    intro cls d W1 H1 σ1 sr1 x1 l1 xr
    have h : FlK X.K X.mg Wx lk W H σ e D (match cm z.cls with
      | some b => if b = true then (if i < e1.length then (fX z (e1.set i none)).gone i else .stuck) else .ex z e1
      | none => .stuck) := h
    cases hb' : cm z.cls with
    | none => rw [hb'] at h; exact h.elim
    | some b =>
      rw [hb'] at h
      refine ⟨b, hcm z.cls b cls hb' xr.1, fun eb a ha => ?_, fun eb => ?_⟩
      · subst eb
        have h : FlK X.K X.mg Wx lk W H σ e D (if i < e1.length then (fX z (e1.set i none)).gone i else .stuck) := h
        split at h
        rotate_left
        · exact h.elim
        rename_i hie
        have hiσ : i < σ1.length := by rw [← sr1.len]; exact hie
        refine ⟨W1, e1.set i none, z, sr1.setN i _, List.getElem?_set_self hiσ, xr, ?_⟩
        have lk1 : ∀ j ∈ lk, (σ1.set i (some (.ref a)))[j]? = σ[j]? := fun j hj => (List.getElem?_set_ne fun (w : i = j) => hlk (by rw [w]; exact hj)).trans (l1 j hj)
        have h2 := FlK.go (x1.trans (EX.shrink fun b o => Ow.setN (i := i) (v := some (.ref a)) o)) lk1 h
        revert h2
        generalize fX z (e1.set i none) = fl
        intro h2
        have fin : ∀ {W' : List Addr} {H' : Hp} {σ' : St} {e' : En}, SR W' X.K H' σ' e' → EX W1 H1 (σ1.set i (some (.ref a))) (e1.set i none) W' H' σ' e' → (∀ j ∈ lk, σ'[j]? = (σ1.set i (some (V.ref a)))[j]?) →
            SR W' X.K H' (σ'.set i none) (e'.set i none) ∧ EX W1 H1 (σ1.set i (some (.ref a))) (e1.set i none) W' H' (σ'.set i none) (e'.set i none) ∧ ∀ j ∈ lk, (σ'.set i none)[j]? = (σ1.set i (some (V.ref a)))[j]? :=
          fun s x l => ⟨s.setN i none, x.trans (EX.shrink fun b o => o.setN), fun j hj => (List.getElem?_set_ne fun (w : i = j) => hlk (by rw [w]; exact hj)).trans (l j hj)⟩
        cases fl with
        | stuck => exact h2.elim
        | ex y e2 => exact h2.elim
        | nx e2 => exact fun W' H' σ' s x l => let ⟨s', x', l'⟩ := fin s x l; h2 W' H' _ s' x' l'
        | bk e2 => exact fun W' H' σ' s x l => let ⟨s', x', l'⟩ := fin s x l; h2 W' H' _ s' x' l'
        | ct e2 => exact fun W' H' σ' s x l => let ⟨s', x', l'⟩ := fin s x l; h2 W' H' _ s' x' l'
        | rt s e2 => exact h2
      · subst eb
        exact h cls d W1 H1 σ1 sr1 x1 l1 xr
/-! ### the suite: a name gets a value; a value is returned -/
@[simp] def sxSet (j : Nat) (fx : XD → FP) : FX := fun x e => (rvO (fx x e) e).st fun s e1 => put j s.view e1
theorem sx_set (j : Nat) {y : Str} {py : Pos} (ha : PX X i a fx) (hNd : X.N.Nodup) (hlk : j ∉ lk := by decide) (hj : X.N[j]? = some y := by rfl) (hy : Loc X.env.scope y := by first | exact Or.inl rfl | exact Or.inr rfl) (hs : swapsWith a (some (.Name y py)) pos.line X.env = pure false := by rfl)
    (hfn : X.fn y = true ∨ X.env.scope.names.lookup y = some .local := by first | exact .inl rfl | exact .inr rfl | assumption) : SX X lk i [.Assign [.Name y py] a pos] (sxSet j fx) := by
  refine ⟨fun a' oe cls d pn hz hf => ⟨fun pins s σ H D I ⟨W, e, x, sr, hi, xr, h⟩ => ?_⟩⟩
  refine (pss_one (ps_set (X := X.suite a' ((a', oe) :: pn)) hNd hj hy (ha.run a' oe cls d pn hz hf) hs hfn)).run pins s σ H D I ?_
  obtain ⟨r, er, kq⟩ := OutK.rvo sr (DK.st (X := X) (Wx := noW) (Q0 := fun v H' => D.nx (σ.set j (some v)) H') sr.wm h fun s v e1 W1 H1 sr1 x1 rr h1 => put_st hlk sr1 rr h1)
  exact ⟨W, e, x, r, sr, hi, xr, er, kq⟩
@[simp] def sxRet (fx : XD → FP) : FX := fun x e => (rvO (fx x e) e).st fun s e1 => .rt s e1
theorem sx_ret (ha : PX X i a fx) : SX X lk i [.Return (some a) pos] (sxRet fx) := by
  refine ⟨fun a' oe cls d pn hz hf => ⟨fun pins s σ H D I ⟨W, e, x, sr, hi, xr, h⟩ => ?_⟩⟩
  refine (pss_one (ps_ret (X := X.suite a' ((a', oe) :: pn)) (ha.run a' oe cls d pn hz hf))).run pins s σ H D I ?_
  obtain ⟨r, er, kq⟩ := OutK.rvo sr (OutK.st (X := X) (Wx := noW) (Q0 := D.rt) h fun s v e1 W1 H1 sr1 x1 r fr h1 => h1 v W1 H1 σ sr1 x1 (fun _ _ => rfl) r fun so a ea => ⟨(fr so a ea).2, .inr (fr so a ea).1⟩)
  exact ⟨W, e, x, r, sr, hi, xr, er, kq⟩
end
end DL

set_option maxHeartbeats 4000000
namespace DL
open PySem PySem.Spec PyProof.Rows L2

/-! ## odds and ends -/
section
variable {X : Cx} {Wx : WX} {lk : List Nat} {a b : Expr} {fa fb : FM} {sts : List Stmt} {pos : Pos}
@[simp] def pDic0 : FP := fun _ => some (.fz (.dic [] []))
theorem pp_dic0 : PP X (.Dict [] [] pos) pDic0 := by
  refine PP.of ⟨_, pe_dnewK, fun W H σ e Q r sr hf k => ?_⟩
  cases hf
  intro p hn
  have g : Grow W H W (upd H p (.dK [])) := .of sr.wm (upd_keep hn)
  exact k _ W _ g ⟨p, [], rfl, ⟨upd_same, fun z => sr.thr z hn⟩, rfl, rfl⟩
/-- for over a list that is made with effects -/
@[simp] def sForM (fa : FM) (bind : FG) (fb : FS) : FS := fun e => (fa e).st fun s e1 => match s.view with
  | .lst ds => forL bind fb ds e1
  | _ => .stuck
theorem sd_forM {tg iter : Expr} {vs : List Nat} {bind : FG} {fb : FS} (hp : PassesOwn (model X.prog X.w) X.A X.env X.xe) (hc : X.calm = true) (ha : PM X Wx iter fa) (hg : GP X tg vs bind) (hb : SDs X Wx lk sts fb) (hlk : ∀ j ∈ lk, j ∉ vs := by decide)
    (hs : ∀ x, foldedSetIterable iter X.env x = pure x := by intro _; rfl) : SD X Wx lk (.For tg iter sts [] pos) (sForM fa bind fb) := by
  obtain ⟨u, pb, kb⟩ := hb.run
  refine SD.of ⟨_, ps_for (g := tG tg X.K vs bind) hp hc (pi_list ha.pe) hg.pg pb hs, fun W H σ e D sr h => ?_⟩
  refine ⟨W, e, sr, DK.st sr.wm h fun s v e1 W1 H1 sr1 x1 r h1 => ?_⟩
  revert r h1
  generalize s.view = dl
  intro r h1
  cases dl with
  | lst ds =>
    obtain ⟨l, us, rfl, hl, rl⟩ := r
    refine ⟨l, rfl, ⟨us, .of hl.1⟩, fun i m σ2 H2 => m = ds.length - i ∧ i ≤ ds.length ∧ ∃ W2 e2, SR W2 X.K H2 σ2 e2 ∧ Ex W1 H1 W2 H2 ∧ FlK X.K X.mg Wx lk W2 H2 σ2 e2 D (forL bind fb (ds.drop i) e2), ⟨ds.length, rfl, Nat.zero_le _, W1, e1, sr1, .refl sr1.wm, h1⟩, ?_⟩
    rintro i m σ2 H2 ⟨rfl, hle, W2, e2, sr2, x2, h2⟩
    have I2 : ItAt tg W2 X.K H2 (Itl X.K l) ds := itAt_list (x2.lsF hl).seq (RpL.mono x2 _ rl)
    by_cases hlt : i < ds.length
    · refine .inr ?_
      obtain ⟨d, hd⟩ : ∃ d, ds[i]? = some d := ⟨ds[i], List.getElem?_eq_getElem hlt⟩
      obtain ⟨hgo, hy⟩ := I2.1 i d hd
      refine ⟨hgo, fun σ' H' => ∃ W4 e4, SR W4 X.K H' σ' e4 ∧ Ex W1 H1 W4 H' ∧ FlK X.K X.mg Wx lk W4 H' σ' e4 D (forL bind fb (ds.drop (i + 1)) e4), fun σ' H' q => ⟨ds.length - (i + 1), by omega, rfl, hlt, q⟩, fun x H3 y => ?_⟩
      obtain ⟨kp, rp⟩ := hy x H3 y
      have ed : ds.drop i = d :: ds.drop (i + 1) := by
        rw [List.drop_eq_getElem_cons hlt]
        rw [List.getElem?_eq_getElem hlt] at hd
        cases hd
        rfl
      rw [ed] at h2
      unfold forL at h2
      split at h2
      · exact h2.elim
      rename_i e3 he3
      have g3 : Grow W2 H2 W2 H3 := .of sr2.wm kp
      have sr3 := g3.sr sr2
      refine ⟨W2, e2, d, e3, sr3, rp, he3, fun σ1 sr1 l1 a1 o1 => kb W2 H3 σ1 e3 _ sr1 ?_⟩
      have x3 : EX W2 H2 σ2 e2 W2 H3 σ1 e3 := (g3.fx sr2).trans (EX.shrink o1)
      have xx : Ex W1 H1 W2 H3 := x2.trans (g3.ex sr2.wm)
      have h3 := FlK.go x3 (fun j hj => a1 j (hlk j hj)) h2
      revert h3
      generalize fb e3 = fl
      intro h3
      cases fl with
      | stuck => exact h3
      | nx e4 => exact fun W4 H4 σ4 sr4 x4 l4 => ⟨W4, e4, sr4, xx.trans (x4.ex sr1), FlK.go x4 l4 h3⟩
      | ct e4 => exact fun W4 H4 σ4 sr4 x4 l4 => ⟨W4, e4, sr4, xx.trans (x4.ex sr1), FlK.go x4 l4 h3⟩
      | bk e4 => exact h3
      | rt s e4 => exact h3
      | ex x e4 => exact h3
    · have ei : i = ds.length := by omega
      subst ei
      rw [List.drop_length] at h2
      exact .inl ⟨I2.2, h2 W2 H2 σ2 sr2 .refl fun _ _ => rfl⟩
  | _ => exact h1.elim
end
theorem Room.u64 {k : Nat} {A : Around} (r : Room k A) : A.units + 64 < cLine := by have := r.un; omega
theorem Room.u65 {k : Nat} {A : Around} (r : Room k A) : A.units + 65 < cLine := by have := r.un; omega
theorem Room.u110 {k : Nat} {A : Around} (r : Room k A) : A.units + 110 < cLine := by have := r.un; omega
/-- a def of the text, by its body -/
theorem cal_of {P : Program} {w : World} {K : PySem.W.Frag} {mg : Str → Option Value} {base : Heap} {d : He.DefD} {N ps : List Str} {k : Nat} {lk : List Nat} {fb : FS} (hm : mg d.name = some (.ref (He.fAd K d.at_))) (FD : ∃ fd, FunD K d.name d.qual d.params d.body d.scope (d.dvs K) (d.kws K) (He.fAd K d.at_) fd)
    (hdf : d.dfl = []) (SC : FnScope N ps d.scope)
    (hb : ∀ (cdv : Value) (A : Around) (outer : List Env) (s : Shared) (H : Hp) (E : XK), Room k (A.deeper (envOfC d.qual d.scope s.heap.objs.size (He.fAd K d.at_) cdv)) → A.guards = some [] →
      SDs (cxOf (CX P w) P w K mg base N d.qual d.scope (He.fAd K d.at_) cdv A outer s H E) (fun c d _ H' => E c d H') lk d.body fb) : Cal P w K mg base (k + 1) d ps (fnF N.length lk fb) := by
  obtain ⟨fd, FD⟩ := FD
  refine ⟨⟨_, fd, hm, FD.kp, fd_of FD SC hb, ?_⟩⟩
  obtain ⟨oc, od, dV, kV, doc, pm, an, cdv, ct, osl, e, lk', hcd, hD, hK⟩ := FD.ex
  have hd : dV = .none := by
    rcases hD with ⟨_, z⟩ | ⟨z, _⟩
    · exact z
    · exact absurd (show d.dvs K = [] by unfold He.DefD.dvs; rw [hdf]; rfl) z
  subst hd
  exact ⟨⟨kV, doc, pm, an, cdv, ct, e⟩, oc, od, osl, lk'⟩

/-! ## the law's end -/
section
variable {P : Program} {w : World} {K : PySem.W.Frag} {mg mb : Str → Option Value} {k : Nat} {fa a : Addr} {fd : FuncData} {x : Str} {F : List S → Out} {s1 : Shared} {vs : List Value} {ns : List Int}
def dints (ns : List Int) : List D := ns.map .int
theorem rp_ints {W : List Addr} {H : Hp} : ∀ ns : List Int, RpL W K H (dints ns) (ns.map V.int)
  | [] => rfl
  | n :: ns => ⟨.int n, ns.map V.int, rfl, rfl, rp_ints ns⟩
theorem law_end (KX : K.In s1.heap) (hns : s1.heap.Ns mainGlobals mg) (hb : s1.heap.Ns builtinsNs mb) (hbb : ∀ x : Str, x ≠ "__name__" → mb x = bootBuiltins x) (hlim : s1.heap.NoLimit) (hg : s1.gens = #[]) (ha : s1.heap.get? a = some { cls := .type "list", data := .seq vs.toArray }) (hi : IntsAre vs ns) (hl : ns.length ≤ sizeLine)
    (hr : Room k callerA) (hF : ∀ base : Heap, K.In base → base.Ns mainGlobals mg → Fd P w K mg base k fa fd [x] F) (bind : ∀ (s : Shared) (u : Value), BindsTo s fd ⟨[u], []⟩ [(x, u)]) (tr : ∃ e, F [.d (.ro (dints ns))] = .ok (.d (.bl true)) e) :
    codeAny (model P w) callerA (.call (.ref fa) ⟨[.ref a], []⟩) (fun r s' => r = .ok (.ret (.bool true)) ∧ OldK s1.heap s'.heap ∧ s'.os = s1.os ∧ AllBare s'.gens) s1 := by
  have go : ∀ H : Hp, Only H → SqL K H a (ns.map V.int) → (∀ b, ¬ Mut (H b)) → HOk P w H s1.heap → (∀ b, H b ≠ none → b = a) → (H a ≠ none → K.lookup a = none) →
      codeAny (model P w) callerA (.call (.ref fa) ⟨[.ref a], []⟩) (fun r s' => r = .ok (.ret (.bool true)) ∧ OldK s1.heap s'.heap ∧ s'.os = s1.os ∧ AllBare s'.gens) s1 := by
    intro H only sq nomut ok one notK
    have inB {b : Addr} {o : Obj} (e : s1.heap.get? b = some o) (n : H b = none) : (hidT s1.heap H).get? b = some o := hidT_get e n
    have dictN {b : Addr} {o : Obj} {es : Array DictEntry} {ep : Nat} (e : s1.heap.get? b = some o) (d : o.data = .dict es ep) : H b = none := by
      cases q : H b with
      | none => rfl
      | some u =>
        have z : b = a := one b (by rw [q]; simp)
        rw [z, ha] at e
        cases e
        have d' : Data.seq vs.toArray _ = Data.dict es ep := d
        cases d'
    have nsB {b : Addr} {m : Str → Option Value} (z : s1.heap.Ns b m) : (hidT s1.heap H).Ns b m := let ⟨o, es, ep, e, d, r⟩ := z; ⟨o, es, ep, inB e (dictN e d), d, r⟩
    have kB : K.In (hidT s1.heap H) := fun b o e => inB (KX b o e) (by
      cases q : H b with
      | none => rfl
      | some u =>
        have z : b = a := one b (by rw [q]; simp)
        rw [z, notK (by rw [← z, q]; simp)] at e
        cases e)
    have md : Mod K mg (hidT s1.heap H) := ⟨kB, nsB hns, ⟨mb, nsB hb, hbb⟩, let ⟨mc, h1, h2⟩ := hlim; ⟨mc, nsB h1, h2⟩⟩
    have env : Env0 P w K mg (hidT s1.heap H) callerA [] s1 H := ⟨rfl, md, fun b o e => of_hidT e, Nat.le_of_eq (hidT_size _ _), trivial, fun b hb => absurd (show b ∈ ([] : List Addr) from hb) (by simp), ok, .of_eq hg⟩
    obtain ⟨ee, ef⟩ := tr
    have ro : RoF K H a (ns.map V.int) := by
      rcases sq with (h | h) | h
      · exact absurd (show Mut (H a) by rw [h]; trivial) (nomut a)
      · exact .inl h
      · exact .inr (.inr h)
    have fr : SR [] K H ([V.ref a].map some) ([S.d (.ro (dints ns))].map some) := frame_of (ds := [.ro (dints ns)]) (fun _ z => absurd z (by simp)) ⟨_, [], rfl, ⟨a, _, rfl, ro, rp_ints ns⟩, rfl⟩
    refine codeAny_mono ((hF _ kB (nsB hns)).run callerA [] s1 H ⟨[.ref a], []⟩ [.ref a] [.ref a] [.d (.ro (dints ns))] [] (fun v _ => v = .bl true) (fun _ _ _ => False) hr rfl env (bind s1 (.ref a)) (.cons rfl .nil) rfl fr ?_) fun r s' h => ?_
    · rw [ef]
      exact fun v W' H' _ _ rv _ => rv
    · cases r with
      | error e =>
        obtain ⟨_, _, _, _, _, _, _, _, _, _, _, _, z⟩ := h
        exact z.elim
      | ok fl =>
        cases fl with
        | next => exact False.elim h
        | brk => exact False.elim h
        | cont => exact False.elim h
        | ret u =>
          obtain ⟨v, H', os, bare, un, ok', rv, q⟩ := h
          cases (show v = .bl true from q)
          obtain rfl : u = Value.bool true := rv
          refine ⟨rfl, OldK.of_keep fun b o e => ?_, os, bare⟩
          cases q : H b with
          | none => exact un.keep b o e q (fun z => absurd (show b ∈ ([] : List Addr) from z) (by simp)) (fun z => absurd (show b ∈ ([] : List Addr) from z) (by simp))
          | some u =>
            rcases only b with z | ⟨ob, xs, z⟩
            · rw [q] at z
              cases z
            · obtain ⟨e1, _⟩ := ok b _ z
              obtain ⟨e2, _⟩ := ok' b _ (un.frzs b ob _ z)
              rw [e] at e1
              cases e1
              exact e2
  have rv := vals_ints hi
  have lenV := hi.length
  cases hk : K.lookup a with
  | some o =>
    have e := KX a o hk
    rw [ha] at e
    cases e
    exact go (fun _ => none) (fun _ => .inl rfl) (.inr ⟨_, vs.toArray, _, hk, rfl, rfl, rfl, by rw [List.size_toArray, lenV]; exact hl, by simpa using rv⟩) (fun _ z => z) (fun b u z => by have z' : (none : Option HO) = some u := z; cases z') (fun b z => absurd rfl z) fun z => absurd rfl z
  | none =>
    refine go (fun b => if b = a then some (.frz { cls := .type "list", data := .seq vs.toArray } (.lst (ns.map V.int))) else none) (fun b => ?_) (.inl (.inr ⟨{ cls := .type "list", data := .seq vs.toArray }, if_pos rfl⟩)) (fun b z => ?_) (fun b u z => ?_) (fun b z => ?_) fun _ => hk
    · by_cases h : b = a
      · exact .inr ⟨_, _, if_pos h⟩
      · exact .inl (if_neg h)
    · by_cases h : b = a
      · rw [if_pos h] at z; exact z
      · rw [if_neg h] at z; exact z
    · by_cases h : b = a
      · have w := (if_pos h).symm.trans z
        cases w
        subst h
        exact ⟨ha, by rw [List.length_map]; exact hl, vs, _, rv, ha⟩
      · have w := (if_neg h).symm.trans z
        cases w
    · by_cases h : b = a
      · exact h
      · exact absurd (if_neg h) z
/-- F gives the written part, the function object, the promise over every base -/
theorem walk_dl {l : PySem.W.OpenLaw} {n k : Nat} {q : Program} {loose : List Str} {XP : (Str → Option Value) → Heap → Prop} {YP : World → Heap → Prop} {d : DefRec} {x : Str} {F : List S → Out} (hn : l.most = some n) (hn2 : n ≤ sizeLine) (hdf : d.params.defaults = []) (hr : Room k callerA)
    (hF : ∀ (w : World) (mg : Str → Option Value) (fa : Addr) (h : Heap), YP w h → h.Ns mainGlobals mg → mg d.name = some (.ref fa) → ∃ (K : PySem.W.Frag) (fd : FuncData), K.In h ∧ (∀ (s : Shared) (u : Value), BindsTo s fd ⟨[u], []⟩ [(x, u)]) ∧
      ∀ base : Heap, K.In base → base.Ns mainGlobals mg → Fd l.prog w K mg base k fa fd [x] F)
    (tr : ∀ ns : List Int, ns.length ≤ n → ∃ e, F [.d (.ro (dints ns))] = .ok (.d (.bl true)) e) : PySem.W.WalkO q loose XP YP l.row.toRowW d [] (fun f vs => PySem.call f vs) := by
  refine Att.attach_call hn hdf fun w s0 s1 mg mb fa o pm cd doc a vs ns G Y ho hd hcd hmg hobj hints hlen hg => ?_
  obtain ⟨K, fd, KX, hb, hp⟩ := hF w mg fa _ Y G.T.g hmg
  exact law_end KX G.T.g G.T.b G.T.builtins G.T.nolimit hg hobj hints (Nat.le_trans hlen hn2) hr hp hb (tr ns hlen)
end
end DL

set_option maxHeartbeats 4000000
namespace DL
open PySem PySem.Spec PyProof.Rows L2

/-! ## a head with own looks -/
def obX (n : Nat) (fa : List He.Fa) (fn : List He.DefD) (chk : PySem.W.Frag → Bool) (g : Addr → Option Obj) : He.AlD × Bool := (fun K => (He.obsD fa fn K, chk K)) (He.frG g (He.asD g n))
def hookX (n : Nat) (fa : List He.Fa) (fn : List He.DefD) (chk : PySem.W.Frag → Bool) : PySem.W.Hook where
  α := He.AlD × Bool
  obs := fun s => obX n fa fn chk s.heap.get?
  val := fun _ => (He.valD fn, true)
  says := fun _ h => ∃ K : PySem.W.Frag, K.In h ∧ He.SaysD fa fn K ∧ chk K = true
  of := fun _ _ e => ⟨_, He.frG_in, congrArg Prod.fst e, congrArg Prod.snd e⟩
  keeps := fun _ _ _ ⟨K, hK, c⟩ k => ⟨K, PySem.W.Frag.In.keeps hK k, c⟩
theorem obX_eq {n : Nat} {fa : List He.Fa} {fn : List He.DefD} {chk : PySem.W.Frag → Bool} {g : Addr → Option Obj} {s : Shared} (h : ∀ a, g a = s.heap.get? a) : obX n fa fn chk g = (hookX n fa fn chk).obs s := by
  have e : g = s.heap.get? := funext h
  rw [e] <;> rfl
/-- a tuple of whole numbers of the module -/
def tupI (K : PySem.W.Frag) (x : Str) (ns : List Int) : Bool := He.tupB K x (ns.map .int) && (match K.lookup (He.ga K x) with
  | some o => decide (o.cls = .type "tuple") && decide (o.dict = none)
  | none => false)
theorem tupI_ok {K : PySem.W.Frag} {x : Str} {ns : List Int} (h : tupI K x ns = true) : (∀ H, SqT K H (He.ga K x) (ns.map V.int)) ∧ ∃ o, K.lookup (He.ga K x) = some o ∧ o.cls = .type "tuple" ∧ o.dict = none := by
  obtain ⟨h1, h2⟩ := Bool.and_eq_true_iff.mp h
  refine ⟨fun H => ?_, ?_⟩
  · have q := He.tupB_ok h1 H
    rw [List.map_map] at q
    exact q
  · cases e : K.lookup (He.ga K x) with
    | none => rw [e] at h2; cases h2
    | some o =>
      rw [e] at h2
      obtain ⟨a, b⟩ := Bool.and_eq_true_iff.mp h2
      exact ⟨o, rfl, of_decide_eq_true a, of_decide_eq_true b⟩
def exmB (K : PySem.W.Frag) (x y : Str) (b : Bool) : Bool := decide (PySem.W.exmOne K (.ref (He.ga K x)) (.ref (He.ga K y)) = some b)
def kitOB (K : PySem.W.Frag) (x y : Str) (b : Bool) : Bool := decide (PySem.W.kitOne K (.ref (He.ga K x)) (.ref (He.ga K y)) = some b)

/-- the law's def, over every base -/
theorem fd_all {P : Program} {w : World} {K : PySem.W.Frag} {mg : Str → Option Value} {k : Nat} {d : He.DefD} {x : Str} {F : List S → Out} {fa : Addr} (hm : mg d.name = some (.ref fa)) (h0 : mg d.name = some (.ref (He.fAd K d.at_))) (hb : BindsA d [x]) (hdf : d.dfl = []) (FD : ∃ fd, FunD K d.name d.qual d.params d.body d.scope (d.dvs K) (d.kws K) (He.fAd K d.at_) fd)
    (c : ∀ base : Heap, Cal P w K mg base k d [x] F) : ∃ fd : FuncData, (∀ (s : Shared) (v : Value), BindsTo s fd ⟨[v], []⟩ [(x, v)]) ∧ ∀ base : Heap, Fd P w K mg base k fa fd [x] F := by
  obtain ⟨fd, FD⟩ := FD
  obtain ⟨oc, od, dV, kV, doc, pm, an, cdv, ct, osl, e, lk, hcd, hD, hK⟩ := FD.ex
  have hd : dV = .none := by
    rcases hD with ⟨_, z⟩ | ⟨z, _⟩
    · exact z
    · exact absurd (show d.dvs K = [] by unfold He.DefD.dvs; rw [hdf]; rfl) z
  subst hd
  refine ⟨fd, fun s v => .of_eq (by rw [e]; exact hb kV doc pm an cdv ct [v] rfl), fun base => ?_⟩
  obtain ⟨f, fd2, hm2, _, FF, _, oc2, od2, osl2, lk2⟩ := (c base).ex
  rw [hm] at h0 hm2
  cases h0
  cases hm2
  rw [lk] at lk2
  cases lk2
  exact FF
/-! ## keywords, by places -/
def permG (n m : Nat) (ix : List Nat) {α : Type} (us ws : List α) : List α := if us.length = n ∧ ws.length = m then ix.filterMap fun i => (us ++ ws)[i]? else []
theorem permG_ok {n m k : Nat} {ix : List Nat} {α : Type} {us ws : List α} (h : (permG n m ix us ws).length = k) (hk : k ≠ 0) : us.length = n ∧ ws.length = m := by
  by_cases q : us.length = n ∧ ws.length = m
  · exact q
  · exfalso
    have e : permG n m ix us ws = [] := if_neg q
    rw [e] at h
    exact hk h.symm
def cBody : Stmt → List Stmt
  | .ClassDef (body := b) .. => b
  | _ => []
theorem Vals.pick {vs : List V} {us : List Value} (r : Vals vs us) : ∀ ix : List Nat, Vals (ix.filterMap fun i => vs[i]?) (ix.filterMap fun i => us[i]?)
  | [] => .nil
  | i :: ix => by
    rw [List.filterMap_cons, List.filterMap_cons]
    cases h : vs[i]? with
    | none =>
      have h2 : us[i]? = none := by
        rw [List.getElem?_eq_none_iff] at h ⊢
        rw [← r.length]
        exact h
      rw [h2]
      exact Vals.pick r ix
    | some v =>
      obtain ⟨u, h2, rv⟩ := r.get h
      rw [h2]
      exact .cons rv (Vals.pick r ix)
theorem gv_perm (n m : Nat) (ix : List Nat) : GVals (permG n m ix) := ⟨fun {vs us zs ws} r rz => by
  unfold permG
  rw [r.length, rz.length]
  split
  · exact Vals.pick (r.append rz) ix
  · exact .nil⟩
section
variable {W : List Addr} {K : PySem.W.Frag} {H H' : Hp}
theorem RVs.get : ∀ {rs : List RV} {vs : List V} {i : Nat}, RVs W K H H' rs vs → (rs[i]? = none ∧ vs[i]? = none) ∨ ∃ r v, rs[i]? = some r ∧ vs[i]? = some v ∧ RVok W K H H' r v
  | [], vs, i, h => by cases (show vs = [] from h); exact .inl ⟨by simp, by simp⟩
  | r :: rs, _, 0, ⟨v, us, e, h1, _⟩ => by subst e; exact .inr ⟨r, v, rfl, rfl, h1⟩
  | r :: rs, _, i + 1, ⟨v, us, e, _, h2⟩ => by subst e; simpa using RVs.get (i := i) h2
theorem RVs.pick {rs : List RV} {vs : List V} (r : RVs W K H H' rs vs) : ∀ ix : List Nat, RVs W K H H' (ix.filterMap fun i => rs[i]?) (ix.filterMap fun i => vs[i]?)
  | [] => rfl
  | i :: ix => by
    rw [List.filterMap_cons, List.filterMap_cons]
    rcases r.get (i := i) with ⟨h1, h2⟩ | ⟨q, v, h1, h2, h3⟩
    · rw [h1, h2]; exact RVs.pick r ix
    · rw [h1, h2]; exact ⟨v, _, rfl, h3, RVs.pick r ix⟩
theorem RVs.append : ∀ {rs qs : List RV} {vs us : List V}, RVs W K H H' rs vs → RVs W K H H' qs us → RVs W K H H' (rs ++ qs) (vs ++ us)
  | [], qs, vs, us, h, q => by cases (show vs = [] from h); exact q
  | r :: rs, qs, _, us, ⟨v, ws, e, h1, h2⟩, q => by subst e; exact ⟨v, ws ++ us, rfl, h1, RVs.append h2 q⟩
theorem gr_perm (n m : Nat) (ix : List Nat) : GRel (permG n m ix) := ⟨fun {W K H H' rs qs vs zs} r rz => by
  unfold permG
  rw [r.len, rz.len]
  split
  · exact RVs.pick (r.append rz) ix
  · exact rfl⟩
end
end DL

set_option maxHeartbeats 2000000
namespace DL
open PySem PySem.Spec PyProof.Rows L2
section
variable {X : Cx} {Wx : WX}
/-- name = [..] on one line, the name gets the new list for itself -/
theorem sd_setOLc {lk : List Nat} (i : Nat) {y : Str} {py : Pos} {elt tg iter : Expr} {ifs : List Expr} {scope : Scope} {own : List (Str × Nat)} {pos spos : Pos} {fi : FI} {bind : FG} {ft : FT} {fe : FP} (hc : X.calm = true) (hN : X.N.Nodup)
    (hsw : swapsWith (.ListComp elt [⟨tg, iter, ifs, 0⟩] scope pos) (some (.Name y py)) spos.line X.env = pure true) (hi : IP X tg iter fi) (ok : BlkOk X.N X.env.scope scope own)
    (hg : ∀ (s : Shared) (H : Hp) (C : Addr) (cl : List (Str × Addr)) (fp : List Addr), GP (X.blk s H scope (compEnvC scope cl C X.env) fp) tg (own.map (·.2)) bind)
    (ht : ∀ (s : Shared) (H : Hp) (C : Addr) (cl : List (Str × Addr)) (fp : List Addr), TPs (X.blk s H scope (compEnvC scope cl C X.env) fp) ifs ft)
    (he : ∀ (s : Shared) (H : Hp) (C : Addr) (cl : List (Str × Addr)) (fp : List Addr), PP (X.blk s H scope (compEnvC scope cl C X.env) fp) elt fe)
    (hlk : i ∉ lk := by decide) (hy : X.N[i]? = some y := by rfl) (hyl : X.env.scope.names.lookup y = some .local := by rfl)
    (hs : ∀ x, foldedSetIterable iter X.env x = pure x := by intro _; rfl) : SD X Wx lk (.Assign [.Name y py] (.ListComp elt [⟨tg, iter, ifs, 0⟩] scope pos) spos) (sSetO i (mPP (pLc (own.map (·.2)) fi bind ft fe))) := by
  refine SD.of ⟨_, ps_setLc (g := tG tg X.K (own.map (·.2)) bind) (tt := tT X.K ft) (te := tP X.K fe) hc hN hy hyl hsw hi.pi ok (fun s H C cl fp => (hg s H C cl fp).pg) (fun s H C cl fp => (ht s H C cl fp).pts) (fun s H C cl fp => (he s H C cl fp).pe) hs, fun W H σ e D sr h => ?_⟩
  have h2 := OutK.st (Q0 := fun v H' => D.nx (σ.set i (some v)) H') h fun s v e1 W1 H1 sr1 x1 r fr h1 => putO_st hlk sr.wm sr1 x1 r fr h1
  obtain ⟨r, er, kq⟩ := OutK.rvo sr h2
  obtain ⟨⟨ds, bb⟩, e1, hf⟩ := Option.bind_eq_some_iff.mp er
  obtain ⟨xs, e2, hf⟩ := Option.bind_eq_some_iff.mp hf
  split at hf
  · rename_i hz
    cases hf
    exact ⟨W, e, ds, bb, sr, e1, fun J W' H1 g1 it D0 hn => lc_read (Q := fun v H' => D.nx (σ.set i (some v)) H') sr g1 hn (fun W2 H2 g => it W2 H2 (.inl g)) e2 hz kq⟩
  · cases hf
theorem sd_setOLm {lk : List Nat} (i : Nat) {y : Str} {py : Pos} {elt tg iter : Expr} {ifs : List Expr} {scope : Scope} {own : List (Str × Nat)} {pos spos : Pos} {fi : FI} {bind : FG} {ft : FT} {fe : FM} (hc : X.calm = true) (hN : X.N.Nodup)
    (hsw : swapsWith (.ListComp elt [⟨tg, iter, ifs, 0⟩] scope pos) (some (.Name y py)) spos.line X.env = pure true) (hi : IP X tg iter fi) (ok : BlkOk X.N X.env.scope scope own)
    (hg : ∀ (s : Shared) (H : Hp) (C : Addr) (cl : List (Str × Addr)) (fp : List Addr), GP (X.blk s H scope (compEnvC scope cl C X.env) fp) tg (own.map (·.2)) bind)
    (ht : ∀ (s : Shared) (H : Hp) (C : Addr) (cl : List (Str × Addr)) (fp : List Addr), TPs (X.blk s H scope (compEnvC scope cl C X.env) fp) ifs ft)
    (he : ∀ (s : Shared) (H : Hp) (C : Addr) (cl : List (Str × Addr)) (fp : List Addr), PM (X.blk s H scope (compEnvC scope cl C X.env) fp) noW elt fe)
    (hlk : i ∉ lk := by decide) (hy : X.N[i]? = some y := by rfl) (hyl : X.env.scope.names.lookup y = some .local := by rfl)
    (hs : ∀ x, foldedSetIterable iter X.env x = pure x := by intro _; rfl) : SD X Wx lk (.Assign [.Name y py] (.ListComp elt [⟨tg, iter, ifs, 0⟩] scope pos) spos) (sSetO i (mLc (own.map (·.2)) fi bind ft fe)) := by
  refine SD.of ⟨_, ps_setLc (g := tG tg X.K (own.map (·.2)) bind) (tt := tT X.K ft) (te := tM X.K X.mg noW fe) hc hN hy hyl hsw hi.pi ok (fun s H C cl fp => (hg s H C cl fp).pg) (fun s H C cl fp => (ht s H C cl fp).pts) (fun s H C cl fp => (he s H C cl fp).pe) hs, fun W H σ e D sr h => ?_⟩
  exact lm_fin (Wx := Wx) sr (OutK.st (Q0 := fun v H' => D.nx (σ.set i (some v)) H') h fun s v e1 W1 H1 sr1 x1 r fr h1 => putO_st hlk sr.wm sr1 x1 r fr h1)
end
end DL

set_option maxHeartbeats 4000000
namespace DL
open PySem PySem.Spec PyProof.Rows L2
section
variable {X : Cx} {Wx : WX} {lk : List Nat} {a b : Expr} {fa fb : FM} {sts : List Stmt} {pos : Pos}
/-- for over a tuple that is made with effects -/
@[simp] def sForT (fa : FM) (bind : FG) (fb : FS) : FS := fun e => (fa e).st fun s e1 => match s.view with
  | .tup ds => forL bind fb ds e1
  | _ => .stuck
theorem sd_forT {tg iter : Expr} {vs : List Nat} {bind : FG} {fb : FS} (hp : PassesOwn (model X.prog X.w) X.A X.env X.xe) (hc : X.calm = true) (ha : PM X Wx iter fa) (hg : GP X tg vs bind) (hb : SDs X Wx lk sts fb) (hlk : ∀ j ∈ lk, j ∉ vs := by decide)
    (hs : ∀ x, foldedSetIterable iter X.env x = pure x := by intro _; rfl) : SD X Wx lk (.For tg iter sts [] pos) (sForT fa bind fb) := by
  obtain ⟨u, pb, kb⟩ := hb.run
  refine SD.of ⟨_, ps_for (g := tG tg X.K vs bind) hp hc (pi_tup ha.pe) hg.pg pb hs, fun W H σ e D sr h => ?_⟩
  refine ⟨W, e, sr, DK.st sr.wm h fun s v e1 W1 H1 sr1 x1 r h1 => ?_⟩
  revert r h1
  generalize s.view = dl
  intro r h1
  cases dl with
  | tup ds =>
    obtain ⟨l, us, rfl, hl, rl⟩ := r
    refine ⟨l, rfl, ⟨us, hl.1⟩, fun i m σ2 H2 => m = ds.length - i ∧ i ≤ ds.length ∧ ∃ W2 e2, SR W2 X.K H2 σ2 e2 ∧ Ex W1 H1 W2 H2 ∧ FlK X.K X.mg Wx lk W2 H2 σ2 e2 D (forL bind fb (ds.drop i) e2), ⟨ds.length, rfl, Nat.zero_le _, W1, e1, sr1, .refl sr1.wm, h1⟩, ?_⟩
    rintro i m σ2 H2 ⟨rfl, hle, W2, e2, sr2, x2, h2⟩
    have I2 : ItAt tg W2 X.K H2 (Itt X.K l) ds := itAt_tup (x2.sqT hl.1) (RpL.mono x2 _ rl)
    by_cases hlt : i < ds.length
    · refine .inr ?_
      obtain ⟨d, hd⟩ : ∃ d, ds[i]? = some d := ⟨ds[i], List.getElem?_eq_getElem hlt⟩
      obtain ⟨hgo, hy⟩ := I2.1 i d hd
      refine ⟨hgo, fun σ' H' => ∃ W4 e4, SR W4 X.K H' σ' e4 ∧ Ex W1 H1 W4 H' ∧ FlK X.K X.mg Wx lk W4 H' σ' e4 D (forL bind fb (ds.drop (i + 1)) e4), fun σ' H' q => ⟨ds.length - (i + 1), by omega, rfl, hlt, q⟩, fun x H3 y => ?_⟩
      obtain ⟨kp, rp⟩ := hy x H3 y
      have ed : ds.drop i = d :: ds.drop (i + 1) := by
        rw [List.drop_eq_getElem_cons hlt]
        rw [List.getElem?_eq_getElem hlt] at hd
        cases hd
        rfl
      rw [ed] at h2
      unfold forL at h2
      split at h2
      · exact h2.elim
      rename_i e3 he3
      have g3 : Grow W2 H2 W2 H3 := .of sr2.wm kp
      have sr3 := g3.sr sr2
      refine ⟨W2, e2, d, e3, sr3, rp, he3, fun σ1 sr1 l1 a1 o1 => kb W2 H3 σ1 e3 _ sr1 ?_⟩
      have x3 : EX W2 H2 σ2 e2 W2 H3 σ1 e3 := (g3.fx sr2).trans (EX.shrink o1)
      have xx : Ex W1 H1 W2 H3 := x2.trans (g3.ex sr2.wm)
      have h3 := FlK.go x3 (fun j hj => a1 j (hlk j hj)) h2
      revert h3
      generalize fb e3 = fl
      intro h3
      cases fl with
      | stuck => exact h3
      | nx e4 => exact fun W4 H4 σ4 sr4 x4 l4 => ⟨W4, e4, sr4, xx.trans (x4.ex sr1), FlK.go x4 l4 h3⟩
      | ct e4 => exact fun W4 H4 σ4 sr4 x4 l4 => ⟨W4, e4, sr4, xx.trans (x4.ex sr1), FlK.go x4 l4 h3⟩
      | bk e4 => exact h3
      | rt s e4 => exact h3
      | ex x e4 => exact h3
    · have ei : i = ds.length := by omega
      subst ei
      rw [List.drop_length] at h2
      exact .inl ⟨I2.2, h2 W2 H2 σ2 sr2 .refl fun _ _ => rfl⟩
  | _ => exact h1.elim
end
end DL

set_option maxHeartbeats 4000000
namespace L2
open PySem PySem.Spec PyProof.Rows
/-! # A run has one end: what several looks promise of a call comes together -/
theorem runs_det {M : Model} {Γ : PySem.Ctx} {p : Pos} {t : Sem Fin} {fs : List Frame} {s : Shared} {e : End} {s' : Shared} (h : Runs M Γ p t fs s e s') : ∀ {e2 : End} {s2 : Shared}, Runs M Γ p t fs s e2 s2 → e = e2 ∧ s' = s2 := by
  induction h with
  | done => intro _ _ h; cases h; exact ⟨rfl, rfl⟩
  | raise => intro _ _ h; cases h; exact ⟨rfl, rfl⟩
  | again _ _ ih => intro _ _ h; cases h with | again _ h => exact ih h
  | rule _ ih => intro _ _ h; cases h with | rule h => exact ih h
  | «at» _ ih => intro _ _ h; cases h with | «at» h => exact ih h
  | load ha _ ih => intro _ _ h; cases h with | load hb h => rw [ha] at hb; cases hb; exact ih h
  | update _ _ ih => intro _ _ h; cases h with | update _ h => exact ih h
  | loadIfAlive _ ih => intro _ _ h; cases h with | loadIfAlive h => exact ih h
  | point _ ih => intro _ _ h; cases h with | point h => exact ih h
  | alloc _ ih => intro _ _ h; cases h with | alloc h => exact ih h
  | fresh _ ih => intro _ _ h; cases h with | fresh h => exact ih h
  | ask _ ih => intro _ _ h; cases h with | ask h => exact ih h
  | choose _ _ ih => intro _ _ h; cases h with | choose _ h => exact ih h
  | os _ ih => intro _ _ h; cases h with | os h => exact ih h
  | handled _ ih => intro _ _ h; cases h with | handled h => exact ih h
  | genState ha _ ih => intro _ _ h; cases h with | genState hb h => rw [ha] at hb; cases hb; exact ih h
  | stack _ ih => intro _ _ h; cases h with | stack h => exact ih h
  | thread _ ih => intro _ _ h; cases h with | thread h => exact ih h
  | newGen _ ih => intro _ _ h; cases h with | newGen h => exact ih h
  | call _ _ ih1 ih2 =>
    intro _ _ h
    cases h with
    | call h1 h2 => obtain ⟨a, b⟩ := ih1 h1; cases a; subst b; exact ih2 h2
    | callSusp h1 => cases (ih1 h1).1
  | callSusp _ ih1 =>
    intro _ _ h
    cases h with
    | call h1 h2 => cases (ih1 h1).1
    | callSusp h1 => obtain ⟨a, b⟩ := ih1 h1; cases a; subst b; exact ⟨rfl, rfl⟩
  | yield => intro _ _ h; cases h; exact ⟨rfl, rfl⟩
  | resumeFresh ha _ _ _ ih1 ih2 =>
    intro _ _ h
    cases h with
    | resumeFresh hb h1 _ h2 =>
      rw [ha] at hb; cases hb
      obtain ⟨a, b⟩ := ih1 h1; cases a; subst b; exact ih2 h2
    | resumeSuspended hb _ _ _ => rw [ha] at hb; cases hb
    | resumeJustStarted hb hv _ => exact absurd rfl hv
    | resumeRunning hb _ => rw [ha] at hb; cases hb
    | resumeFinished hb _ => rw [ha] at hb; cases hb
  | resumeSuspended ha _ _ _ ih1 ih2 =>
    intro _ _ h
    cases h with
    | resumeFresh hb _ _ _ => rw [ha] at hb; cases hb
    | resumeSuspended hb h1 _ h2 =>
      rw [ha] at hb; cases hb
      obtain ⟨a, b⟩ := ih1 h1; cases a; subst b; exact ih2 h2
    | resumeJustStarted hb hv _ => rw [ha] at hb; cases hb
    | resumeThrowFresh hb _ => rw [ha] at hb; cases hb
    | resumeRunning hb _ => rw [ha] at hb; cases hb
    | resumeFinished hb _ => rw [ha] at hb; cases hb
  | resumeJustStarted ha hv _ ih =>
    intro _ _ h
    cases h with
    | resumeFresh hb _ _ _ => exact absurd rfl hv
    | resumeSuspended hb _ _ _ => rw [ha] at hb; cases hb
    | resumeJustStarted hb _ h1 => exact ih h1
    | resumeRunning hb _ => rw [ha] at hb; cases hb
    | resumeFinished hb _ => rw [ha] at hb; cases hb
  | resumeThrowFresh ha _ ih =>
    intro _ _ h
    cases h with
    | resumeSuspended hb _ _ _ => rw [ha] at hb; cases hb
    | resumeThrowFresh hb h1 => exact ih h1
    | resumeRunning hb _ => rw [ha] at hb; cases hb
    | resumeFinished hb _ => rw [ha] at hb; cases hb
  | resumeRunning ha _ ih =>
    intro _ _ h
    cases h with
    | resumeFresh hb _ _ _ => rw [ha] at hb; cases hb
    | resumeSuspended hb _ _ _ => rw [ha] at hb; cases hb
    | resumeJustStarted hb hv _ => rw [ha] at hb; cases hb
    | resumeThrowFresh hb _ => rw [ha] at hb; cases hb
    | resumeRunning hb h1 => exact ih h1
    | resumeFinished hb _ => rw [ha] at hb; cases hb
  | resumeFinished ha _ ih =>
    intro _ _ h
    cases h with
    | resumeFresh hb _ _ _ => rw [ha] at hb; cases hb
    | resumeSuspended hb _ _ _ => rw [ha] at hb; cases hb
    | resumeJustStarted hb hv _ => rw [ha] at hb; cases hb
    | resumeThrowFresh hb _ => rw [ha] at hb; cases hb
    | resumeRunning hb _ => rw [ha] at hb; cases hb
    | resumeFinished hb h1 => exact ih h1
  | segRet _ _ ih1 ih2 =>
    intro _ _ h
    cases h with
    | segRet h1 h2 => obtain ⟨a, b⟩ := ih1 h1; cases a; subst b; exact ih2 h2
    | segSuspOut _ h1 => cases (ih1 h1).1
    | segSuspGen _ h1 _ _ => cases (ih1 h1).1
  | segGen _ _ ih1 ih2 =>
    intro _ _ h
    cases h with
    | segGen h1 h2 => obtain ⟨a, b⟩ := ih1 h1; cases a; subst b; exact ih2 h2
    | segSuspOut _ h1 => cases (ih1 h1).1
    | segSuspGen _ h1 _ _ => cases (ih1 h1).1
  | segSuspOut hs _ ih1 =>
    intro _ _ h
    cases h with
    | segRet h1 h2 => cases (ih1 h1).1
    | segGen h1 h2 => cases (ih1 h1).1
    | segSuspOut _ h1 => obtain ⟨a, b⟩ := ih1 h1; cases a; subst b; exact ⟨rfl, rfl⟩
    | segSuspGen hs2 h1 _ _ => rw [hs] at hs2; cases hs2
  | segSuspGen hs _ _ _ ih1 ih2 =>
    intro _ _ h
    cases h with
    | segRet h1 h2 => cases (ih1 h1).1
    | segGen h1 h2 => cases (ih1 h1).1
    | segSuspOut hs2 h1 => rw [hs] at hs2; cases hs2
    | segSuspGen hs2 h1 _ h2 =>
      rw [hs] at hs2; cases hs2
      obtain ⟨a, b⟩ := ih1 h1; cases a; subst b; exact ih2 h2
theorem codeAny_all {ι : Type} {M : Model} {A : Around} {c : Code} {R : ι → Result → Shared → Prop} {s : Shared} (i : ι) (h : ∀ i, codeAny M A c (R i) s) : codeAny M A c (fun r s' => ∀ i, R i r s') s := fun Γ p hc hb => by
  obtain ⟨r, s', h1, _⟩ := h i Γ p hc hb
  refine ⟨r, s', h1, fun j => ?_⟩
  obtain ⟨r2, s2, h2, q⟩ := h j Γ p hc hb
  obtain ⟨a, b⟩ := runs_det h1 h2
  cases a
  subst b
  exact q
end L2
namespace DL
open PySem PySem.Spec PyProof.Rows L2
section
variable {X : Cx} {pins : List (Addr × Obj)} {σ : St} {H2 : Hp} {l : List Addr} {ax : Addr}
/-! # min(xs, key=f) -/
/-- a look at the heap while a builtin walks: l: the builtin's own objects -/
structure Vw (X : Cx) (pins : List (Addr × Obj)) (σ : St) (H2 : Hp) (l : List Addr) (ax : Addr) (H' : Hp) (s : Shared) : Prop where
  inv : Inv X pins σ H' s
  sub : ∀ a o, H2 a = some o → H' a = some o
  fp : ∀ b ∈ l, FpOk X pins H' b
  no : H' ax = none
theorem Vw.moved {H' : Hp} {s s' : Shared} (v : Vw X pins σ H2 l ax H' s) (m : Moved l (fun a b => b = a) s s') : Vw X pins σ H2 l ax H' s' := by
  obtain ⟨I, g, fp, no⟩ := v
  have nl : ∀ b u, H' b = some u → b ∉ l := fun b u e z => by have := (fp b z).1; rw [this] at e; cases e
  refine ⟨I.call' (ch := l) m.os ⟨fun b o e n hf hx => m.heap b o hx e, fun b o e n hf hx => ⟨o.slots, m.heap b o hx e⟩, fun _ _ _ n _ => n, fun b o e hx => ⟨o, m.heap b o hx e⟩, fun _ _ e => e, fun _ _ _ e => e, fun b ps e => ⟨#[], by rw [e]; simp⟩⟩
    (fun b u e => (I.hok b u e).stay (fun c v hc q => m.heap c v ?_ q) (fun _ q => q) fun _ _ q => q) (by rw [m.gens]; exact I.bare) (fun b hb => ⟨(fp b hb).2.2.2.1, (fp b hb).2.1, (fp b hb).2.2.2.2.1, (fp b hb).2.2.2.2.2⟩), g, fp, no⟩
  rcases hc with z | z
  · rw [z]; exact nl b u e
  · exact nl c _ z
theorem stk_not {H' : Hp} {s : Shared} (I : Inv X pins σ H' s) {b : Addr} (h : FpOk X pins H' b) : b ∉ frs X.stack := fun z => by
  rcases List.mem_cons.mp (I.stkSub b z) with q | q
  · exact h.2.1 q
  · exact h.2.2.1 q
theorem env_in {A' : Around} {H' : Hp} {s : Shared} (I : Inv X pins σ H' s) (hf : A'.frames = X.A.frames) : Env0 X.prog X.w X.K X.mg X.base A' X.stack s H' :=
  have e := I.env0
  ⟨hf.trans e.frames, e.mod, e.bs, e.bsz, e.funs, e.frf, e.hok, e.bare⟩
/-- one call of the key -/
theorem Vw.call {k : Nat} {f : Addr} {fd : FuncData} {ps : List Str} {F : List S → Out} {A' : Around} {H' : Hp} {s : Shared} {d y : D} {e' : En} {vd : V} {u : Value} (FF : Fd X.prog X.w X.K X.mg X.base k f fd ps F) (hr : Room k A') (hgd : A'.guards = some []) (hf : A'.frames = X.A.frames)
    (v : Vw X pins σ H2 l ax H' s) (hl : ∀ b ∈ l, ∃ o, s.heap.get? b = some o) (hax : ∃ o, s.heap.get? ax = some o) (rd : Rp [] X.K H' d vd) (ru : RelV vd u) (hF : F [.d d] = .ok (.d y) e') (hp : ps.length = 1) (hb : BindsTo s fd ⟨[u], []⟩ (ps.zip [u])) :
    codeAny (model X.prog X.w) A' (.call (.ref f) ⟨[u], []⟩) (fun r s' => ∃ q, r = .ok (.ret q) ∧ (∃ H'' kv, Vw X pins σ H2 l ax H'' s' ∧ (∀ a o, H' a = some o → H'' a = some o) ∧ Rp [] X.K H'' y kv ∧ RelV kv q) ∧ ∀ b o, s.heap.get? b = some o → H' b = none → b ∉ frs X.stack → s'.heap.get? b = some o) s := by
  obtain ⟨I, g, fp, no⟩ := v
  have w0 : WM ([] : List Addr) H' := fun a h => by simp at h
  have sr : SR [] X.K H' ([vd].map some) ([S.d d].map some) := frame_of (W := []) w0 (ds := [d]) (vs := [vd]) ⟨vd, [], rfl, rd, rfl⟩
  have out : OutK X.K X.mg (fun c d _ H' => (fun _ _ _ => False : XK) c d H') [] H' ([vd].map some) ([S.d d].map some) (fun kv H'' => Rp [] X.K H'' y kv ∧ ∀ a o, H' a = some o → H'' a = some o) (F [.d d]) := by
    rw [hF]
    intro v W' H'' sr' x rs fr
    exact ⟨Rp.weak (W := []) (fun a h => by simp at h) (fun a h => by simp at h) rs sr'.wm, fun a o h => x.keep a o h (no_own (ds := [d]))⟩
  refine codeAny_mono (FF.run A' X.stack s H' ⟨[u], []⟩ [u] [vd] [.d d] [] _ (fun _ _ _ => False) hr hgd (env_in I hf) hb (.cons ru .nil) (by rw [hp]; rfl) sr out) fun r s' hq => ?_
  cases r with
  | error e =>
    obtain ⟨_, _, _, _, _, _, _, _, _, _, _, _, z⟩ := (show CX X.prog X.w X.stack H' s (fun _ _ _ => False) e s' from hq)
    exact z.elim
  | ok fl =>
    cases fl with
    | next => exact False.elim hq
    | brk => exact False.elim hq
    | cont => exact False.elim hq
    | ret q =>
      obtain ⟨kv, H'', os, bare, un, hok, r, q1, q2⟩ := (show CE X.stack X.prog X.w H' s _ q s' from hq)
      refine ⟨q, rfl, ⟨H'', kv, ⟨I.call' (ch := []) os un hok bare ((fun b hb => nomatch hb)), fun a o h => q2 a o (g a o h), fun b hb => ?_, ?_⟩, q2, q1, r⟩, fun b o e n hfs => un.keep b o e n hfs (fun z => nomatch z)⟩
      · obtain ⟨o, ho⟩ := hl b hb
        exact ⟨un.free b o ho (fp b hb).1 (fun z => nomatch z), (fp b hb).2⟩
      · obtain ⟨o, ho⟩ := hax
        exact un.free ax o ho no (fun z => nomatch z)
/-- the list at ax is looked at no longer -/
def dropL (H : Hp) (ax : Addr) : Hp := fun b => if b = ax then none else H b
theorem dropL_of {H : Hp} {ax b : Addr} {o : HO} (h : H b = some o) (n : b ≠ ax) : dropL H ax b = some o := by
  unfold dropL
  rw [if_neg n]
  exact h
theorem inv_dropL {H : Hp} {s : Shared} {ax : Addr} {xs : List V} (I : Inv X pins σ H s) (h : H ax = some (.lst xs)) : Inv X pins σ (dropL H ax) s := by
  have sub : ∀ b, H b = none → dropL H ax b = none := fun b n => by
    unfold dropL
    split
    · rfl
    · exact n
  have ne : ∀ {b : Addr} {o : HO}, H b = some o → (∀ ys, o ≠ .lst ys) → b ≠ ax := fun {b o} e n z => by
    rw [z, h] at e
    cases e
    exact n _ rfl
  refine ⟨I.ok, I.os, I.bare, ⟨I.base.keep, I.base.slot, fun b o e n hx => sub b (I.base.free b o e n hx), I.base.there, fun b ys e => ?_, fun b o u e => ?_, fun b ps e => ?_⟩, I.loc, I.cell, sub _ I.free, fun x c e => sub c (I.freeC x c e), fun p hp => ?_, fun b o e => ?_, I.len⟩
  · have := I.base.tups b ys e
    exact dropL_of this (ne this fun _ z => by cases z)
  · have := I.base.frzs b o u e
    exact dropL_of this (ne this fun _ z => by cases z)
  · obtain ⟨more, this⟩ := I.base.tbls b ps e
    exact ⟨more, dropL_of this (ne this fun _ z => by cases z)⟩
  · obtain ⟨a, b, c⟩ := I.pin p hp
    exact ⟨a, sub _ b, c⟩
  · have hb : b ≠ ax := fun z => by
      unfold dropL at e
      rw [if_pos z] at e
      cases e
    have e' : H b = some o := by
      unfold dropL at e
      rw [if_neg hb] at e
      exact e
    exact (I.hok b o e').stay (fun _ _ _ q => q) (fun c q => dropL_of q (ne q fun _ z => by cases z)) fun c ys q => dropL_of q (ne q fun _ z => by cases z)
def okK (x y : D) : Bool := x.okp && y.okp && decide (x.py.depth ≤ 64) && decide (y.py.depth ≤ 64) && PySem.W.alike x.py x.py && PySem.W.alike x.py y.py && PySem.W.alike y.py x.py && PySem.W.alike y.py y.py && !x.isNon && !y.isNon
theorem py_non {x : D} (h : x.isNon = false) : x.py ≠ .none := by
  cases x <;> simp_all [D.py]
def keyD (x y : D) (i : Nat) : D := if i = 0 then x else y
/-- the answer of the key, as the heap shows it -/
def KV (X : Cx) (pins : List (Addr × Obj)) (σ : St) (H2 : Hp) (l : List Addr) (ax : Addr) (x y : D) (i : Nat) (k : Value) (s : Shared) : Prop := ∃ H' kv, Vw X pins σ H2 l ax H' s ∧ Rp [] X.K H' (keyD x y i) kv ∧ RelV kv k
def btD (x y : D) (i j : Nat) : Bool := PySem.W.dataLt (keyD x y i).py (keyD x y j).py
theorem minK_run {k : Nat} {f ax : Addr} {fd : FuncData} {ps : List Str} {F : List S → Out} {H : Hp} {s : Shared} {da db x y : D} {ea eb : En} {va vb : V} {Q : VK} (FF : Fd X.prog X.w X.K X.mg X.base k f fd ps F) (hr : Room (k + 1) X.A) (hgd : X.A.guards = some [])
    (hp : ps.length = 1) (hb : ∀ (s : Shared) (u : Value), BindsTo s fd ⟨[u], []⟩ (ps.zip [u])) (I : Inv X pins σ H s) (hax : H ax = some (.lst [va, vb])) (ra : Rp [] X.K (dropL H ax) da va) (rb : Rp [] X.K (dropL H ax) db vb)
    (hFa : F [.d da] = .ok (.d x) ea) (hFb : F [.d db] = .ok (.d y) eb) (ok : okK x y = true) (hQ : ∀ H'', (∀ a o, dropL H ax a = some o → H'' a = some o) → Q (if PySem.W.dataLt y.py x.py = true then vb else va) H'') :
    wpAny (model X.prog X.w) X.A (call (.builtin "min") [.ref ax] [(Str.ofString "key", .ref f)]) (EP X pins σ Q) X.xe s := by
  obtain ⟨_, its, n, rv, eo⟩ := I.hok ax _ hax
  obtain ⟨ua, ub, rfl, r1, r2⟩ : ∃ ua ub, its = [ua, ub] ∧ RelV va ua ∧ RelV vb ub := by
    cases rv with
    | cons r1 rt =>
      cases rt with
      | cons r2 rt =>
        cases rt
        exact ⟨_, _, rfl, r1, r2⟩
  have I2 := inv_dropL I hax
  have hh : X.A.handled = none := hr.hd
  have hls : s.heap.IsList ax #[ua, ub] := ⟨_, eo, rfl, n, rfl⟩
  have axlt : ax < s.heap.objs.size := Heap.lt_size eo
  refine call_min_walkK ?_
  refine wpAny_pyIter_list hls ?_
  have hne : ax ≠ s.heap.objs.size := Nat.ne_of_lt axlt
  have kept : ∀ b u, s.heap.get? b = some u → (s.heap.push { cls := .type "list_iterator", data := .fields #[.ref ax, .int 0 0] }).get? b = some u := fun b u q => Heap.get?_push_of_some _ q
  have szp : (s.heap.push { cls := .type "list_iterator", data := .fields #[.ref ax, .int 0 0] }).objs.size = s.heap.objs.size + 1 := by
    show (s.heap.objs.push _).size = _
    exact Array.size_push ..
  have I3 : Inv X pins σ (dropL H ax) { s with heap := s.heap.push { cls := .type "list_iterator", data := .fields #[.ref ax, .int 0 0] } } := I2.kept (t' := s.toks) kept
  have fpI : FpOk X pins (dropL H ax) s.heap.objs.size := I2.fpOk (Nat.le_refl _) (I2.hok.fresh (Nat.le_refl _))
  have fpS : FpOk X pins (dropL H ax) (s.heap.objs.size + 1) := I2.fpOk (Nat.le_succ _) (I2.hok.fresh (Nat.le_succ _))
  have axn : dropL H ax ax = none := by unfold dropL; rw [if_pos rfl]
  have axs : ax ∉ frs X.stack := fun z => by
    have := I.stkFree ax z
    rw [hax] at this
    cases this
  have W := (Walks.list (prog := X.prog) (w := X.w) (A := X.A.in1) hh s.heap.objs.size ax hne #[ua, ub]).toS
  have hr1 : Room k X.A.in1 := ⟨hr.hd, by have := hr.dp; show X.A.depth + 3 * k + 5 < _; omega, by have := hr.un; show X.A.units + 1 + 16 * k + 200 < _; omega⟩
  obtain ⟨l, hl⟩ : ∃ l, l = [s.heap.objs.size + 1, s.heap.objs.size] := ⟨_, rfl⟩
  have vw0 : Vw X pins σ (dropL H ax) l ax (dropL H ax) { s with heap := s.heap.push { cls := .type "list_iterator", data := .fields #[.ref ax, .int 0 0] } } := ⟨I3, fun _ _ h => h, fun b hb => by
    rw [hl] at hb
    rcases List.mem_cons.mp hb with z | z
    · rw [z]; exact fpS
    · rw [List.mem_singleton.mp z]; exact fpI, axn⟩
  have items : ∀ i v, i < 2 → (#[ua, ub] : Array Value)[i]? = some v → ∃ d vd e', Rp [] X.K (dropL H ax) d vd ∧ RelV vd v ∧ F [.d d] = .ok (.d (keyD x y i)) e' := fun i v hi h => by
    have : i = 0 ∨ i = 1 := by omega
    rcases this with rfl | rfl
    · have : ua = v := by simpa using h
      subst this
      exact ⟨da, va, ea, ra, r1, hFa⟩
    · have : ub = v := by simpa using h
      subst this
      exact ⟨db, vb, eb, rb, r2, hFb⟩
  have up : ∀ {H' H'' : Hp} {d : D} {v : V}, (∀ a o, H' a = some o → H'' a = some o) → Rp [] X.K H' d v → Rp [] X.K H'' d v := fun {H' H'' d v} g r => Rp.mono (W := []) (W' := []) ⟨fun _ h => (nomatch h), fun a o e _ => ⟨g a o e, fun z => nomatch z⟩⟩ d r
  unfold okK at ok
  simp only [Bool.and_eq_true, decide_eq_true_eq, Bool.not_eq_true'] at ok
  obtain ⟨⟨⟨⟨⟨⟨⟨⟨⟨ox, oy⟩, dx⟩, dy⟩, a1⟩, a2⟩, a3⟩, a4⟩, nx⟩, ny⟩ := ok
  have kok : ∀ i, (keyD x y i).okp = true ∧ (keyD x y i).py.depth ≤ 64 ∧ (keyD x y i).py ≠ .none := fun i => by
    unfold keyD
    split
    · exact ⟨ox, dx, py_non nx⟩
    · exact ⟨oy, dy, py_non ny⟩
  have kal : ∀ i j, PySem.W.alike (keyD x y i).py (keyD x y j).py = true := fun i j => by
    unfold keyD
    split <;> split
    · exact a1
    · exact a2
    · exact a3
    · exact a4
  refine ⟨s.heap.objs.size, [s.heap.objs.size, ax], [s.heap.objs.size], _, 2, _, _, (fun s' => ∃ H', Vw X pins σ (dropL H ax) l ax H' s'), KV X pins σ (dropL H ax) l ax x y, btD x y, rfl, W, ⟨⟨_, Heap.get?_push_size _ rfl, rfl, rfl⟩, ⟨_, kept _ _ eo, rfl, n, rfl⟩⟩, ?_, by decide, ?_, ⟨_, vw0⟩, ?_⟩
  · intro b hb
    rw [szp]
    rcases List.mem_cons.mp hb with z | z
    · rw [z]; exact Nat.lt_succ_self _
    · rw [List.mem_singleton.mp z]; exact Nat.lt_succ_of_lt axlt
  · rw [szp]
    refine ⟨fun s1 s2 ⟨H', v⟩ m => ⟨H', v.moved (by rw [hl]; exact m)⟩, fun i kv s1 s2 ⟨H', v, a, b, c⟩ m => ⟨H', v, a.moved (by rw [hl]; exact m), b, c⟩, ?_, ?_⟩
    · intro i v s1 o Q' E' hi hP hJ hst hS h
      obtain ⟨H0', vw⟩ := hJ
      obtain ⟨d, vd, e', rd, ru, hF⟩ := items i v hi hP
      obtain ⟨⟨o1, h1, c1⟩, ⟨o2, h2, c2⟩⟩ := hst
      have hex : ∀ b ∈ l, ∃ o, s1.heap.get? b = some o := fun b hb => by
        rw [hl] at hb
        rcases List.mem_cons.mp hb with z | z
        · rw [z]; exact ⟨o, hS⟩
        · rw [List.mem_singleton.mp z]; exact ⟨o1, h1⟩
      have mS : s.heap.objs.size + 1 ∈ l := by rw [hl]; simp
      have mI : s.heap.objs.size ∈ l := by rw [hl]; simp
      refine wpAny_call (codeAny_mono (codeAny_all (ι := {H' : Hp // Vw X pins σ (dropL H ax) l ax H' s1}) (R := fun i' r s' => ∃ q, r = .ok (.ret q) ∧ (∃ H'' kv, Vw X pins σ (dropL H ax) l ax H'' s' ∧ (∀ a o, i'.1 a = some o → H'' a = some o) ∧ Rp [] X.K H'' (keyD x y i) kv ∧ RelV kv q) ∧ ∀ b o, s1.heap.get? b = some o → i'.1 b = none → b ∉ frs X.stack → s'.heap.get? b = some o) ⟨H0', vw⟩ fun i' => i'.2.call FF hr1 hgd rfl hex ⟨o2, h2⟩ (up i'.2.sub rd) ru hF hp (hb s1 v)) fun r s2 hq => ?_)
      obtain ⟨q, rfl, ⟨H'', kv, v2, g2, rk, rel⟩, kp⟩ := hq ⟨H0', vw⟩
      refine h q s2 ⟨H'', v2⟩ ⟨⟨o1, kp _ _ h1 (vw.fp _ mI).1 (stk_not vw.inv (vw.fp _ mI)), c1⟩, ⟨o2, kp _ _ h2 vw.no axs, c2⟩⟩ (kp _ _ hS (vw.fp _ mS).1 (stk_not vw.inv (vw.fp _ mS))) ⟨H'', kv, v2, rk, rel⟩ fun j k' ⟨Hj, kvj, vj, rj, lj⟩ => ?_
      obtain ⟨_, _, ⟨Hj', _, vj', gj, _, _⟩, _⟩ := hq ⟨Hj, vj⟩
      exact ⟨Hj', kvj, vj', up gj rj, lj⟩
    · intro i j ki kj s1 Q' E' hJ ⟨Hi, kvi, vi, ri, li⟩ ⟨Hj, kvj, vj, rj, lj⟩ hq
      obtain ⟨as, rdi⟩ := Dp.reads vi.inv _ _ _ (Rp.dp _ (kok i).1 ri) li
      obtain ⟨bs, rdj⟩ := Dp.reads vj.inv _ _ _ (Rp.dp _ (kok j).1 rj) lj
      refine PySem.W.lt_data rdi rdj (kal i j) (kok i).2.2 ?_ hq
      have := (kok i).2.1
      have := hr1.un
      omega
  · intro v s1 hv ⟨H', vw⟩
    have best : argBest (btD x y) (2 - 1) = if PySem.W.dataLt y.py x.py = true then 1 else 0 := rfl
    rw [best] at hv
    have q := hQ H' vw.sub
    by_cases c : PySem.W.dataLt y.py x.py = true
    · rw [if_pos c] at hv q
      have : ub = v := by simpa using hv
      subst this
      exact ⟨vb, H', vw.inv, r2, q⟩
    · rw [if_neg c] at hv q
      have : ua = v := by simpa using hv
      subst this
      exact ⟨va, H', vw.inv, r1, q⟩
def rMinK (K : PySem.W.Frag) (F : List S → Out) (f : Addr) : List V → List V → Hp → VK → Prop := fun xs zs H Q => ∃ (ax : Addr) (va vb : V) (da db x y : D) (ea eb : En), xs = [.ref ax] ∧ zs = [.ref f] ∧ H ax = some (.lst [va, vb]) ∧
  Rp [] K (dropL H ax) da va ∧ Rp [] K (dropL H ax) db vb ∧ F [.d da] = .ok (.d x) ea ∧ F [.d db] = .ok (.d y) eb ∧ okK x y = true ∧ ∀ H'', (∀ a o, dropL H ax a = some o → H'' a = some o) → Q (if PySem.W.dataLt y.py x.py = true then vb else va) H''
/-- min of a list of two by a key -/
def pMinK (F : List S → Out) (fa : FP) : FP := fun e => (fa e).bind fun r => match r with
  | .fr [a, b] => (match F [.d a], F [.d b] with
    | .ok (.d x) _, .ok (.d y) _ => if a.flat = true ∧ b.flat = true ∧ okK x y = true then some (.fz (if PySem.W.dataLt y.py x.py = true then b else a)) else none
    | _, _ => none)
  | _ => none
variable {k : Nat} {d : He.DefD} {ps : List Str} {F : List S → Out} {fx : Str} {p pf pos kpos : Pos} {a : Expr} {fa : FP}
theorem pp_minK (c : Cal X.prog X.w X.K X.mg X.base k d ps F) (hx : d.name = fx) (hb : BindsA d ps) (hr : Room (k + 1) X.A) (hgd : X.A.guards = some []) (hm : X.mg "min" = none) (ha : PP X a fa) (hlen : ps.length = 1 := by rfl) (hg : Gl X "min" := by rfl) (hgf : Gl X fx := by rfl)
    (hd : (fx == ("__debug__" : Str)) = false := by decide) (hs : starEach [a] X.env = (false, eval a X.env) :: starEach [] X.env := by rfl)
    (he : backTo pos (starEach [a] X.env) = (false, eval a X.env) :: backTo pos (starEach [] X.env) := by rfl) (hpl : (backTo pos (starEach [a] X.env)).any (·.1) = false := by rfl)
    (hall : (backToKw pos (keywordEach [⟨some "key", .Name fx pf, kpos⟩] X.env)).all (·.1.isSome) = true := by rfl) (hnone : (backToKw pos (keywordEach [⟨some "key", .Name fx pf, kpos⟩] X.env)).any (·.1.isNone) = false := by rfl)
    (hks : (backToKw pos (keywordEach [⟨some "key", .Name fx pf, kpos⟩] X.env)).filterMap (·.1) = [Str.ofString "key"] := by rfl) :
    PP X (.Call (.Name "min" p) [a] [⟨some "key", .Name fx pf, kpos⟩] pos) (pMinK F fa) := by
  obtain ⟨f, fd, hmf, hk, FF, ⟨kV, doc, pm, an, cdv, ct, efd⟩, _⟩ := c.ex
  rw [hx] at hmf
  obtain ⟨ta, pa, ka⟩ := ha.run
  have cr : CallRK X (.builtin "min") [Str.ofString "key"] (rMinK X.K F f) := by
    intro pins s σ H xs zs us ws Q I r rz h
    obtain ⟨ax, va, vb, da, db, x, y, ea, eb, rfl, rfl, hax, r1, r2, h1, h2, ok, q⟩ := h
    obtain rfl := Vals.ref1 r
    obtain rfl := Vals.ref1 rz
    exact minK_run FF hr hgd hlen (fun s u => .of_eq (by rw [efd]; exact hb kV doc pm an cdv ct [u] (by rw [hlen]; rfl))) I hax r1 r2 h1 h2 ok q
  refine PP.of ⟨_, pe_callBK cr hg hm rfl (pa_cons pa pa_nil hs) (pk_cons (pe_glob (v := .ref f) hgf hmf rfl hd) pk_nil) (by decide) (by decide) he hpl hall hnone hks, fun W H σ e Q r sr hf kq => ?_⟩
  obtain ⟨ra, ea, hf⟩ := Option.bind_eq_some_iff.mp hf
  refine ka W H σ e _ ra sr ea fun v W1 H1 g1 k1 => ?_
  split at hf
  rotate_left
  · cases hf
  rename_i a0 b0
  split at hf
  rotate_left
  · cases hf
  rename_i x e1 y e2 h1 h2
  split at hf
  rotate_left
  · cases hf
  rename_i hz
  obtain ⟨f1, f2, ok⟩ := hz
  cases hf
  obtain ⟨ax, vs, rfl, n0, hw, hax, rl⟩ := k1
  obtain ⟨va, vs', rfl, ra1, vb, vs'', rfl, rb1, rfl⟩ := rl
  have ex : Ex [ax] H1 [] (dropL H1 ax) := ⟨fun b hb => by
    rw [List.mem_singleton.mp hb, hax]
    trivial, fun b o eb nb => ⟨dropL_of eb (fun z => nb (by rw [z]; exact List.mem_singleton.mpr rfl)), fun z => nomatch z⟩⟩
  refine ⟨ax, va, vb, a0, b0, x, y, e1, e2, rfl, rfl, hax, Rp.mono ex a0 (Rp.flat a0 f1 ra1), Rp.mono ex b0 (Rp.flat b0 f2 rb1), h1, h2, ok, fun H'' g => ?_⟩
  have up : ∀ {d : D} {v : V}, d.flat = true → Rp W1 X.K H1 d v → Rp W X.K H'' d v := fun {d v} fl r =>
    Rp.flat d fl (Rp.mono (W := []) (W' := []) ⟨fun _ h => (nomatch h), fun a o e _ => ⟨g a o e, fun z => nomatch z⟩⟩ d (Rp.mono ex d (Rp.flat d fl r)))
  have gg : Grow W H W H'' := .of sr.wm fun b o eb => g b o (dropL_of (g1.keep b o eb) fun z => by rw [z, n0] at eb; cases eb)
  by_cases q : PySem.W.dataLt y.py x.py = true
  · rw [if_pos q] at kq ⊢
    exact kq vb W H'' gg (up f2 rb1)
  · rw [if_neg q] at kq ⊢
    exact kq va W H'' gg (up f1 ra1)
/-! # x < y, for data of one shape -/
def rLtD (K : PySem.W.Frag) : R2 := fun x y H Q => ∃ d e, Dp K H x d ∧ Dp K H y e ∧ PySem.W.alike d e = true ∧ d ≠ .none ∧ min d.depth e.depth ≤ 64 ∧ Q (.bl (PySem.W.dataLt d e)) H
theorem op_ltD (hu : X.A.units + 64 < cLine) : OpR X (compareOp .Lt) (rLtD X.K) := by
  intro pins s σ H x y v u Q I rx ry h
  obtain ⟨d, e, hd, he, al, nn, dp, q⟩ := h
  obtain ⟨as, r1⟩ := Dp.reads I d x v hd rx
  obtain ⟨bs, r2⟩ := Dp.reads I e y u he ry
  exact PySem.W.lt_data r1 r2 al nn (by omega) ⟨.bl _, H, I, rfl, q⟩
def gLtD (x y : D) : Option RV := if x.okp = true ∧ y.okp = true ∧ PySem.W.alike x.py y.py = true ∧ x.isNon = false ∧ min x.py.depth y.py.depth ≤ 64 then some (.fz (.bl (PySem.W.dataLt x.py y.py))) else none
theorem o_ltD (hu : X.A.units + 64 < cLine) : Op2 X (compareOp .Lt) gLtD := by
  refine ⟨_, op_ltD hu, fun W H x y dx dy r Q wm hx hy hg k => ?_⟩
  unfold gLtD at hg
  split at hg
  · rename_i hz
    cases hg
    obtain ⟨a, b, al, nn, dp⟩ := hz
    exact ⟨_, _, hx.dp a, hy.dp b, al, py_non nn, dp, k.fz wm rfl⟩
  · cases hg
end
end DL

set_option maxHeartbeats 4000000
namespace DL
open PySem PySem.Spec PyProof.Rows L2
/-! # sorted(xs, key=f) -/
section
variable {X : Cx} {pins : List (Addr × Obj)} {σ : St} {H2 : Hp} {l : List Addr} {ax : Addr}
theorem Vw.heap {H' : Hp} {s s' : Shared} (v : Vw X pins σ H2 l ax H' s) (mh : ∀ b o, b ∉ l → s.heap.get? b = some o → s'.heap.get? b = some o) (mg : s'.gens = s.gens) (mo : s'.os = s.os) : Vw X pins σ H2 l ax H' s' := by
  obtain ⟨I, g, fp, no⟩ := v
  have nl : ∀ b u, H' b = some u → b ∉ l := fun b u e z => by have := (fp b z).1; rw [this] at e; cases e
  refine ⟨I.call' (ch := l) mo ⟨fun b o e n hf hx => mh b o hx e, fun b o e n hf hx => ⟨o.slots, mh b o hx e⟩, fun _ _ _ n _ => n, fun b o e hx => ⟨o, mh b o hx e⟩, fun _ _ e => e, fun _ _ _ e => e, fun b ps e => ⟨#[], by rw [e]; simp⟩⟩
    (fun b u e => (I.hok b u e).stay (fun c v hc q => mh c v ?_ q) (fun _ q => q) fun _ _ q => q) (by rw [mg]; exact I.bare) (fun b hb => ⟨(fp b hb).2.2.2.1, (fp b hb).2.1, (fp b hb).2.2.2.2.1, (fp b hb).2.2.2.2.2⟩), g, fp, no⟩
  rcases hc with z | z
  · rw [z]; exact nl b u e
  · exact nl c _ z
/-- an object that was nobody's is looked at from now on -/
theorem inv_track {H : Hp} {s : Shared} {a : Addr} {vs : List V} {its : List Value} {n : Nat} (I : Inv X pins σ H s) (fp : FpOk X pins H a) (hz : vs.length ≤ sizeLine) (r : Vals vs its) (ho : s.heap.get? a = some { cls := .type "list", data := .seq its.toArray n }) :
    Inv X pins σ (upd H a (.lst vs)) s := by
  have ne : ∀ {b : Addr} {o : HO}, H b = some o → b ≠ a := fun {b o} e z => by rw [z, fp.1] at e; cases e
  refine I.call' (ch := [a]) rfl ⟨fun b o e _ _ _ => e, fun b o e _ _ _ => ⟨o.slots, e⟩, fun b o e h hx => ?_, fun b o e _ => ⟨o, e⟩, fun b xs e => ?_, fun b o u e => ?_, fun b ps e => ⟨#[], ?_⟩⟩ (fun b u e => ?_) I.bare (fun b hb => ?_)
  · rw [upd_ne (fun z => hx (by rw [z]; exact List.mem_singleton.mpr rfl))]
    exact h
  · rw [upd_ne (ne e)]; exact e
  · rw [upd_ne (ne e)]; exact e
  · rw [upd_ne (ne e), e]; simp
  · by_cases z : b = a
    · subst z
      rw [upd_same] at e
      cases e
      exact ⟨hz, its, n, r, ho⟩
    · rw [upd_ne z] at e
      exact (I.hok b u e).stay (fun _ _ _ q => q) (fun c q => by rw [upd_ne (ne q)]; exact q) fun c xs q => by rw [upd_ne (ne q)]; exact q
  · rw [List.mem_singleton.mp hb]
    exact ⟨fp.2.2.2.1, fp.2.1, fp.2.2.2.2.1, fp.2.2.2.2.2⟩
theorem each_of_get {α β : Type} {R : α → β → Prop} : ∀ {as : List α} {bs : List β}, as.length = bs.length → (∀ (j : Nat) (a : α) (b : β), as[j]? = some a → bs[j]? = some b → R a b) → PySem.W.EachIs R as bs
  | [], [], _, _ => .nil
  | [], _ :: _, h, _ => by simp at h
  | _ :: _, [], h, _ => by simp at h
  | a :: as, b :: bs, h, r => .cons (r 0 a b rfl rfl) (each_of_get (by simpa using h) fun j x y e1 e2 => r (j + 1) x y (by simpa using e1) (by simpa using e2))
theorem vals_of_each {K : PySem.W.Frag} {H : Hp} : ∀ {out : List Value} {ds : List D}, PySem.W.EachIs (fun (v : Value) (d : D) => ∃ vd, RelV vd v ∧ Rp [] K H d vd) out ds → ∃ vs, Vals vs out ∧ RpL [] K H ds vs
  | _, _, .nil => ⟨[], .nil, rfl⟩
  | _, _, .cons ⟨vd, r1, r2⟩ t => by
    obtain ⟨vs, h1, h2⟩ := vals_of_each t
    exact ⟨vd :: vs, .cons r1 h1, ⟨vd, vs, rfl, r2, h2⟩⟩
theorem each_of_vals {K : PySem.W.Frag} {H : Hp} : ∀ {vs : List V} {its : List Value} {ds : List D}, Vals vs its → RpL [] K H ds vs → PySem.W.EachIs (fun (v : Value) (d : D) => ∃ vd, RelV vd v ∧ Rp [] K H d vd) its ds
  | _, _, [], r, h => by
    cases (show _ = [] from h)
    cases r
    exact .nil
  | _, _, d :: ds, r, ⟨v, vs', e, h1, h2⟩ => by
    subst e
    cases r with
    | cons r1 r2 => exact .cons ⟨v, r1, h1⟩ (each_of_vals r2 h2)
/-- the answer y of the key, as the heap shows it -/
def KA (X : Cx) (pins : List (Addr × Obj)) (σ : St) (H2 : Hp) (l : List Addr) (ax : Addr) (y : D) (k : Value) (s : Shared) : Prop := ∃ H' kv, Vw X pins σ H2 l ax H' s ∧ Rp [] X.K H' y kv ∧ RelV kv k
/-- the list at a is sorted by the key -/
theorem sortK_at {k : Nat} {f a : Addr} {fd : FuncData} {ps : List Str} {F : List S → Out} {H : Hp} {s : Shared} {ds : List D} {vs : List V} {its : List Value} {kf : D → D} {Q : VK} {E' : Value → Shared → Prop} (FF : Fd X.prog X.w X.K X.mg X.base k f fd ps F) (hr : Room (k + 1) X.A) (hgd : X.A.guards = some [])
    (hp : ps.length = 1) (hb : ∀ (s : Shared) (u : Value), BindsTo s fd ⟨[u], []⟩ (ps.zip [u])) (I : Inv X pins σ H s) (fpa : FpOk X pins H a) (ho : s.heap.get? a = some (seqObj "list" its.toArray 0)) (rv : Vals vs its) (hzi : its.length ≤ sizeLine) (hd : RpL [] X.K H ds vs)
    (hF : ∀ d ∈ ds, ∃ e', F [.d d] = .ok (.d (kf d)) e') (ok : ∀ d ∈ ds, (kf d).okp = true ∧ (kf d).py.depth ≤ 64) (al : PySem.W.AllAlike (ds.map fun d => (kf d).py)) (so : PySem.W.Sortable (ds.map fun d => (kf d).py))
    (hQ : ∀ H'' vs', (∀ b o, H b = some o → H'' b = some o) → H'' a = none → RpL [] X.K H (ds.mergeSort (PySem.W.dataLe false fun d => (kf d).py)) vs' → Q (.ref a) (upd H'' a (.lst vs'))) :
    wpAny (model X.prog X.w) X.A.in1.in1 (Builtin.«list.sort» ⟨[.ref a], [(Str.ofString "key", .ref f)]⟩) (fun fin s' => fin = .done (.ret .none) ∧ EP X pins σ Q (.ref a) s') E' s := by
  have ev := each_of_vals rv hd
  have hlen : its.length = ds.length := ev.length
  rw [PyProof.Rows.ksk_t1]
  have alt : a < s.heap.objs.size := Heap.lt_size ho
  obtain ⟨e1, ho1⟩ : ∃ e1, (s.heap.update a (Obj.mapSeq fun _ => (#[] : Array Value))).get? a = some (seqObj "list" #[] e1) := ⟨_, get?_update_seq ho _⟩
  obtain ⟨kS, hkS⟩ : ∃ kS, kS = ((s.heap.update a (Obj.mapSeq fun _ => (#[] : Array Value))).push (seqObj "tuple" its.toArray 0)).objs.size := ⟨_, rfl⟩
  have ekS : kS = s.heap.objs.size + 1 := by rw [hkS, size_push', Heap.size_update]
  have hka : kS ≠ a := by rw [ekS]; exact Nat.ne_of_gt (Nat.lt_succ_of_lt alt)
  have hits : its.toArray.size ≤ sizeLine := by rw [List.size_toArray]; exact hzi
  unfold ksk_tree
  refine wpAny_bind (PyProof.Rows.listItems_at ho rfl ?_)
  refine wpAny_bind (PyProof.Rows.listUpdate_at ho rfl ?_ hits (Nat.zero_le _))
  refine wpAny_bind (PyProof.Rows.seqEpoch_at ho1 rfl ?_)
  refine wpAny_bind (wpAny_newTuple (items := its.toArray.toList) ?_ hzi)
  refine wpAny_bind (wpAny_newList (items := []) ?_ (Nat.zero_le _))
  refine wpAny_holding ?_
  obtain ⟨h3, eh3⟩ : ∃ h3, h3 = PySem.W.sortingHeap s.heap a its := ⟨_, rfl⟩
  show wpAny _ _ (ksk_rest a (.ref f) false its.toArray e1 (.ref ((s.heap.update a (Obj.mapSeq fun _ => (#[] : Array Value))).push (seqObj "tuple" its.toArray 0)).objs.size)) _ _ { s with heap := PySem.W.sortingHeap s.heap a its }
  rw [← hkS, ← eh3]
  have old : ∀ b o, b ≠ a → s.heap.get? b = some o → h3.get? b = some o := fun b o hb q => by
    rw [eh3]
    exact PySem.W.sortingHeap_old hb q
  have nk : h3.get? kS = some (seqObj "list" #[] 0) := by
    rw [eh3, hkS]
    exact Heap.get?_push_size _ rfl
  have na : h3.get? a = some (seqObj "list" #[] e1) := by
    rw [eh3]
    exact Heap.get?_push_of_some _ (Heap.get?_push_of_some _ ho1)
  have I3 : Inv X pins σ H { s with heap := h3 } := I.turned (t' := s.toks) (it := a) old fpa.1 fpa.2.1 fpa.2.2.2.1 fpa.2.2.2.2.1 fpa.2.2.2.2.2
  have le3 : s.heap.objs.size ≤ kS := by rw [ekS]; exact Nat.le_succ _
  have fpk : FpOk X pins H kS := I.fpOk le3 (I.hok.fresh le3)
  obtain ⟨l, el⟩ : ∃ l, l = [kS, a] := ⟨_, rfl⟩
  have mk : kS ∈ l := by rw [el]; simp
  have ma : a ∈ l := by rw [el]; simp
  have vw0 : Vw X pins σ H l a H { s with heap := h3 } := ⟨I3, fun _ _ h => h, fun b hb => by
    rw [el] at hb
    rcases List.mem_cons.mp hb with z | z
    · rw [z]; exact fpk
    · rw [List.mem_singleton.mp z]; exact fpa, fpa.1⟩
  have up : ∀ {H' H'' : Hp} {d : D} {v : V}, (∀ a o, H' a = some o → H'' a = some o) → Rp [] X.K H' d v → Rp [] X.K H'' d v := fun {H' H'' d v} g r => Rp.mono (W := []) (W' := []) ⟨fun _ h => (nomatch h), fun a o e _ => ⟨g a o e, fun z => nomatch z⟩⟩ d r
  have hr1 : Room k X.A.in1.in1 := ⟨hr.hd, by have := hr.dp; show X.A.depth + 3 * k + 5 < _; omega, by have := hr.un; show X.A.units + 1 + 1 + 16 * k + 200 < _; omega⟩
  unfold ksk_rest
  refine wpAny_bind (wpAny_rule ?_)
  first
    | rw [List.forIn_toArray]
    | (rw [← Array.forIn_toList]; simp only [List.toList_toArray])
  refine wpAny_bind (PyProof.Rows.ksk_fold (fun i s' => ∃ kA e, (∃ H', Vw X pins σ H l a H' s') ∧ s'.heap.get? kS = some (seqObj "list" kA e) ∧ s'.heap.get? a = some (seqObj "list" #[] e1) ∧ kA.size = i ∧ ∀ (j : Nat) (kv : Value) (d : D), kA[j]? = some kv → ds[j]? = some d → KA X pins σ H l a (kf d) kv s') its 0 { s with heap := h3 }
    ⟨#[], 0, ⟨H, vw0⟩, nk, na, rfl, fun j kv d h => by simp at h⟩ ?turn ?last)
  case turn =>
    rintro j x s1 hx ⟨kA, e, ⟨H0', vw⟩, k1, k2, k3, k4⟩
    simp only [Nat.zero_add] at k3 ⊢
    have hj : j < its.length := (List.getElem?_eq_some_iff.mp hx).1
    obtain ⟨d, hdj⟩ : ∃ d, ds[j]? = some d := ⟨_, List.getElem?_eq_getElem (by omega)⟩
    have hmem : d ∈ ds := List.mem_of_getElem? hdj
    obtain ⟨vd, ru, rd⟩ : ∃ vd, RelV vd x ∧ Rp [] X.K H d vd := by
      have hz : (x, d) ∈ its.zip ds := List.mem_of_getElem? (i := j) (by rw [List.getElem?_zip_eq_some]; exact ⟨hx, hdj⟩)
      exact ev.zip _ hz
    obtain ⟨e', hFd⟩ := hF d hmem
    have hex : ∀ b ∈ l, ∃ o, s1.heap.get? b = some o := fun b hb => by
      rw [el] at hb
      rcases List.mem_cons.mp hb with z | z
      · rw [z]; exact ⟨_, k1⟩
      · rw [List.mem_singleton.mp z]; exact ⟨_, k2⟩
    refine wpAny_bind (wpAny_attempt (wpAny_call (codeAny_mono (codeAny_all (ι := {H' : Hp // Vw X pins σ H l a H' s1}) (R := fun i' r s' => ∃ q, r = .ok (.ret q) ∧ (∃ H'' kv, Vw X pins σ H l a H'' s' ∧ (∀ a o, i'.1 a = some o → H'' a = some o) ∧ Rp [] X.K H'' (kf d) kv ∧ RelV kv q) ∧ ∀ b o, s1.heap.get? b = some o → i'.1 b = none → b ∉ frs X.stack → s'.heap.get? b = some o) ⟨H0', vw⟩
      fun i' => i'.2.call FF hr1 hgd rfl hex ⟨_, k2⟩ (up i'.2.sub rd) ru hFd hp (hb s1 x)) fun r s2 hq => ?_)))
    obtain ⟨q, rfl, ⟨H'', kv, v2, g2, rk, rel⟩, kp⟩ := hq ⟨H0', vw⟩
    have n1 : s2.heap.get? kS = some (seqObj "list" kA e) := kp _ _ k1 (vw.fp _ mk).1 (stk_not vw.inv (vw.fp _ mk))
    have n2 : s2.heap.get? a = some (seqObj "list" #[] e1) := kp _ _ k2 (vw.fp _ ma).1 (stk_not vw.inv (vw.fp _ ma))
    have sb := Heap.SameBut.update s2.heap kS (Obj.mapSeq (·.push q))
    have kz : kA.size ≤ sizeLine := by rw [k3]; exact Nat.le_trans (Nat.le_of_lt hj) hzi
    refine wpAny_bind (PyProof.Rows.listUpdate_at n1 rfl ?_ kz (by rw [Array.size_push]; exact Nat.succ_le_succ kz))
    have mv : ∀ {H' : Hp}, Vw X pins σ H l a H' s2 → Vw X pins σ H l a H' { s2 with heap := s2.heap.update kS (Obj.mapSeq (·.push q)) } := fun v => v.heap (fun b o hb ho => (sb.2 b fun z => hb (by rw [z]; exact mk)).trans ho) rfl rfl
    refine wpAny_pure ⟨rfl, kA.push q, _, ⟨H'', mv v2⟩, get?_update_seq n1 _, (sb.2 a hka.symm).trans n2, by rw [Array.size_push, k3], fun j' kv' d' h1 h2 => ?_⟩
    by_cases hlt : j' < kA.size
    · have h1' : kA[j']? = some kv' := by rw [Array.getElem?_push_lt hlt] at h1; rw [Array.getElem?_eq_getElem hlt]; exact h1
      obtain ⟨Hj, kvj, vj, rj, lj⟩ := k4 j' kv' d' h1' h2
      obtain ⟨_, _, ⟨Hj', _, vj', gj, _, _⟩, _⟩ := hq ⟨Hj, vj⟩
      exact ⟨Hj', kvj, mv vj', up gj rj, lj⟩
    · have hjlt : j' < (kA.push q).size := (Array.getElem?_eq_some_iff.mp h1).1
      rw [Array.size_push] at hjlt
      have ej : j' = kA.size := by omega
      have hjj : j' = j := by rw [ej, k3]
      subst ej
      rw [Array.getElem?_push_size] at h1
      cases h1
      have : d' = d := by
        rw [hjj, hdj] at h2
        exact (Option.some.inj h2).symm
      rw [this]
      exact ⟨H'', kv, mv v2, rk, rel⟩
  case last =>
    rintro s1 ⟨kA, e, ⟨H0', vw⟩, k1, k2, k3, k4⟩
    rw [Nat.zero_add] at k3
    refine wpAny_bind (PyProof.Rows.listItems_at k1 rfl ?_)
    have hk' : PySem.W.EachIs (fun v k => ∃ as, Reads s1.heap v k as) kA.toList (ds.map fun d => (kf d).py) := by
      refine each_of_get (by rw [Array.length_toList, k3, List.length_map, hlen]) fun j v y h1 h2 => ?_
      rw [List.getElem?_map] at h2
      cases hdj : ds[j]? with
      | none => rw [hdj] at h2; cases h2
      | some d =>
        rw [hdj] at h2
        cases h2
        obtain ⟨H', kv, v', r', l'⟩ := k4 j v d (by rw [← Array.getElem?_toList]; exact h1) hdj
        exact Dp.reads v'.inv _ _ _ (Rp.dp _ (ok d (List.mem_of_getElem? hdj)).1 r') l'
    obtain ⟨h1, hr1', hr2⟩ := L2.restrict s1.heap (fun b => !decide (b = kS))
    have kp : PySem.W.KeepsBut a h1 s1.heap := fun b o hb ho => by
      by_cases z : b = kS
      · rw [hr2 b (by simp [z])] at ho
        cases ho
      · rw [← hr1' b (by simp [z])]
        exact ho
    have hkn : h1.get? kS = none := hr2 kS (by simp)
    have hks : kA.size = its.length := k3
    refine PySem.W.keyH_end (b := false) (vs := its) kp hkn k1 k2 hka (PySem.W.SortsAt.data (s := s1) hk' al so (fun y hy => ?_)) hks hzi fun h' tk c kq hD => ?_
    · obtain ⟨d, hm, rfl⟩ := List.mem_map.mp hy
      have := (ok d hm).2
      have := hr1.un
      omega
    · refine ⟨rfl, ?_⟩
      have ko := PySem.W.keyedOut_each (rev := false) (bs := ds) (fun d => (kf d).py) ⟨s1.heap, kA.toList, al, rfl, hk'⟩ ev
      obtain ⟨vs', hv', hr'⟩ := vals_of_each ko
      have vl : vs'.length ≤ sizeLine := by
        rw [hv'.length, ko.length, List.length_mergeSort, ← hlen]
        exact hzi
      have v3 : Vw X pins σ H l a H0' { s1 with heap := h', toks := tk } := vw.heap (fun b o hb ho => by
        have z1 : b ≠ kS := fun z => hb (by rw [z]; exact mk)
        have z2 : b ≠ a := fun z => hb (by rw [z]; exact ma)
        exact kq b o z2 (by rw [hr1' b (by simp [z1])]; exact ho)) rfl rfl
      have I5 := inv_track v3.inv (v3.fp a ma) vl hv' hD
      exact ⟨.ref a, _, I5, rfl, hQ H0' vs' v3.sub (v3.fp a ma).1 hr'⟩
theorem sortK_run {k : Nat} {f ax : Addr} {fd : FuncData} {ps : List Str} {F : List S → Out} {H : Hp} {s : Shared} {ds : List D} {vs : List V} {kf : D → D} {Q : VK} (FF : Fd X.prog X.w X.K X.mg X.base k f fd ps F) (hr : Room (k + 1) X.A) (hgd : X.A.guards = some [])
    (hp : ps.length = 1) (hb : ∀ (s : Shared) (u : Value), BindsTo s fd ⟨[u], []⟩ (ps.zip [u])) (I : Inv X pins σ H s) (hax : SqL X.K H ax vs) (hd : RpL [] X.K H ds vs)
    (hF : ∀ d ∈ ds, ∃ e', F [.d d] = .ok (.d (kf d)) e') (ok : ∀ d ∈ ds, (kf d).okp = true ∧ (kf d).py.depth ≤ 64) (al : PySem.W.AllAlike (ds.map fun d => (kf d).py)) (so : PySem.W.Sortable (ds.map fun d => (kf d).py))
    (hQ : ∀ H'' p vs', (∀ b o, H b = some o → H'' b = some o) → H'' p = none → RpL [] X.K H (ds.mergeSort (PySem.W.dataLe false fun d => (kf d).py)) vs' → Q (.ref p) (upd H'' p (.lst vs'))) :
    wpAny (model X.prog X.w) X.A (call (.builtin "sorted") [.ref ax] [(Str.ofString "key", .ref f)]) (EP X pins σ Q) X.xe s := by
  obtain ⟨its, rv, hl, hz⟩ := I.list hax
  have hzi : its.length ≤ sizeLine := by rw [← rv.length]; exact hz
  refine PySem.W.sorted_of_sort hl.isList hzi (PyProof.Rows.ksk_s1 _ _) (fun _ => PyProof.Rows.ksk_l1 _ _) fun E' => ?_
  have I1 : Inv X pins σ H { s with heap := PySem.W.copyHeap s.heap its } := I.kept (t' := s.toks) fun b o q => PySem.W.copyHeap_old q
  have le : s.heap.objs.size ≤ s.heap.objs.size + 1 := Nat.le_succ _
  exact sortK_at FF hr hgd hp hb I1 (I.fpOk le (I.hok.fresh le)) (PySem.W.copyHeap_at s.heap its) rv hzi hd hF ok al so fun H'' vs' g n r => hQ H'' _ vs' g n r
/-- the key of an item -/
def keyF (F : List S → Out) (d : D) : D := match F [.d d] with
  | .ok (.d y) _ => y
  | _ => .non
def keyT (F : List S → Out) (d : D) : Bool := match F [.d d] with
  | .ok (.d _) _ => true
  | _ => false
def tupK : PyData → Bool
  | .tuple (_ :: _) => true
  | _ => false
/-- items that may be sorted by the key: flat, keys that are alike tuples -/
def okSort (F : List S → Out) (ds : List D) : Bool := (ds.all fun d => d.flat && keyT F d && (keyF F d).okp && decide ((keyF F d).py.depth ≤ 64) && tupK (keyF F d).py) && ds.all fun d => ds.all fun e => PySem.W.alike (keyF F d).py (keyF F e).py
def pSortK (F : List S → Out) (fa : FP) : FP := fun e => (fa e).bind fun r => match r.view with
  | .lst ds => if okSort F ds = true then some (.fr (ds.mergeSort (PySem.W.dataLe false fun d => (keyF F d).py))) else none
  | _ => none
def rSortK (K : PySem.W.Frag) (F : List S → Out) (f : Addr) : List V → List V → Hp → VK → Prop := fun xs zs H Q => ∃ (ax : Addr) (vs : List V) (ds : List D), xs = [.ref ax] ∧ zs = [.ref f] ∧ SqL K H ax vs ∧ RpL [] K H ds vs ∧ okSort F ds = true ∧
  ∀ H'' p vs', (∀ b o, H b = some o → H'' b = some o) → H'' p = none → RpL [] K H (ds.mergeSort (PySem.W.dataLe false fun d => (keyF F d).py)) vs' → Q (.ref p) (upd H'' p (.lst vs'))
theorem keyF_ok {F : List S → Out} {d : D} (h : keyT F d = true) : ∃ e', F [.d d] = .ok (.d (keyF F d)) e' := by
  unfold keyT at h
  unfold keyF
  generalize F [.d d] = o at *
  cases o with
  | stuck => cases h
  | ex x e => cases h
  | ok s e =>
    cases s with
    | d y => exact ⟨e, rfl⟩
    | lst xs => cases h
theorem flat_all : ∀ {xs : List D}, (∀ d ∈ xs, d.flat = true) → flatL xs = true
  | [], _ => rfl
  | x :: xs, h => by
    show (x.flat && flatL xs) = true
    rw [h x List.mem_cons_self, flat_all fun d hd => h d (List.mem_cons_of_mem _ hd)]
    rfl
theorem flat_sort {F : List S → Out} {ds : List D} (h : okSort F ds = true) (le : D → D → Bool) : flatL (ds.mergeSort le) = true := by
  have all : ∀ d ∈ ds.mergeSort le, d.flat = true := fun d hd => by
    have hm : d ∈ ds := (List.mergeSort_perm ds le).mem_iff.mp hd
    unfold okSort at h
    obtain ⟨h1, _⟩ := Bool.and_eq_true_iff.mp h
    have := List.all_eq_true.mp h1 d hm
    simp only [Bool.and_eq_true] at this
    exact this.1.1.1.1
  generalize ds.mergeSort le = xs at all
  clear h
  induction xs with
  | nil => rfl
  | cons x xs ih =>
    show (x.flat && flatL xs) = true
    rw [all x List.mem_cons_self, ih fun d hd => all d (List.mem_cons_of_mem _ hd)]
    rfl
variable {k : Nat} {d : He.DefD} {ps : List Str} {F : List S → Out} {fx : Str} {p pf pos kpos : Pos} {a : Expr} {fa : FP}
theorem pp_sortK (c : Cal X.prog X.w X.K X.mg X.base k d ps F) (hx : d.name = fx) (hb : BindsA d ps) (hr : Room (k + 1) X.A) (hgd : X.A.guards = some []) (hm : X.mg "sorted" = none) (ha : PP X a fa) (hlen : ps.length = 1 := by rfl) (hg : Gl X "sorted" := by rfl) (hgf : Gl X fx := by rfl)
    (hdd : (fx == ("__debug__" : Str)) = false := by decide) (hs : starEach [a] X.env = (false, eval a X.env) :: starEach [] X.env := by rfl)
    (he : backTo pos (starEach [a] X.env) = (false, eval a X.env) :: backTo pos (starEach [] X.env) := by rfl) (hpl : (backTo pos (starEach [a] X.env)).any (·.1) = false := by rfl)
    (hall : (backToKw pos (keywordEach [⟨some "key", .Name fx pf, kpos⟩] X.env)).all (·.1.isSome) = true := by rfl) (hnone : (backToKw pos (keywordEach [⟨some "key", .Name fx pf, kpos⟩] X.env)).any (·.1.isNone) = false := by rfl)
    (hks : (backToKw pos (keywordEach [⟨some "key", .Name fx pf, kpos⟩] X.env)).filterMap (·.1) = [Str.ofString "key"] := by rfl) :
    PP X (.Call (.Name "sorted" p) [a] [⟨some "key", .Name fx pf, kpos⟩] pos) (pSortK F fa) := by
  obtain ⟨f, fd, hmf, hk, FF, ⟨kV, doc, pm, an, cdv, ct, efd⟩, _⟩ := c.ex
  rw [hx] at hmf
  obtain ⟨ta, pa, ka⟩ := ha.run
  have cr : CallRK X (.builtin "sorted") [Str.ofString "key"] (rSortK X.K F f) := by
    intro pins s σ H xs zs us ws Q I r rz h
    obtain ⟨ax, vs, ds, rfl, rfl, hax, hd, ok, q⟩ := h
    obtain rfl := Vals.ref1 r
    obtain rfl := Vals.ref1 rz
    have ok2 := ok
    unfold okSort at ok2
    obtain ⟨o1, o2⟩ := Bool.and_eq_true_iff.mp ok2
    have each : ∀ d ∈ ds, keyT F d = true ∧ (keyF F d).okp = true ∧ (keyF F d).py.depth ≤ 64 ∧ tupK (keyF F d).py = true := fun d hm => by
      have := List.all_eq_true.mp o1 d hm
      simp only [Bool.and_eq_true, decide_eq_true_eq] at this
      exact ⟨this.1.1.1.2, this.1.1.2, this.1.2, this.2⟩
    refine sortK_run FF hr hgd hlen (fun s u => .of_eq (by rw [efd]; exact hb kV doc pm an cdv ct [u] (by rw [hlen]; rfl))) I hax hd (fun d hm => keyF_ok (each d hm).1) (fun d hm => ⟨(each d hm).2.1, (each d hm).2.2.1⟩) (fun y hy z hz => ?_) (.inl fun y hy => ?_) q
    · obtain ⟨d1, m1, rfl⟩ := List.mem_map.mp hy
      obtain ⟨d2, m2, rfl⟩ := List.mem_map.mp hz
      exact List.all_eq_true.mp (List.all_eq_true.mp o2 d1 m1) d2 m2
    · obtain ⟨d1, m1, rfl⟩ := List.mem_map.mp hy
      have t := (each d1 m1).2.2.2
      show ∃ x r, (keyF F d1).py = .tuple (x :: r)
      unfold tupK at t
      split at t
      · rename_i x r e
        exact ⟨x, r, e⟩
      · cases t
  refine PP.of ⟨_, pe_callBK cr hg hm rfl (pa_cons pa pa_nil hs) (pk_cons (pe_glob (v := .ref f) hgf hmf rfl hdd) pk_nil) (by decide) (by decide) he hpl hall hnone hks, fun W H σ e Q r sr hf kq => ?_⟩
  obtain ⟨ra, ea, hf⟩ := Option.bind_eq_some_iff.mp hf
  refine ka W H σ e _ ra sr ea fun v W1 H1 g1 k1 => ?_
  have kv := k1.vz
  revert hf kv
  generalize ra.view = y
  intro hf kv
  cases y with
  | lst ds =>
    have hf : (if okSort F ds = true then some (RV.fr (ds.mergeSort (PySem.W.dataLe false fun d => (keyF F d).py))) else none) = some r := hf
    split at hf
    rotate_left
    · cases hf
    rename_i ok
    cases hf
    obtain ⟨ax, vs, rfl, hax, rl⟩ := kv
    have fl : flatL ds = true := flat_all fun d hd => by
      unfold okSort at ok
      obtain ⟨h1, _⟩ := Bool.and_eq_true_iff.mp ok
      have := List.all_eq_true.mp h1 d hd
      simp only [Bool.and_eq_true] at this
      exact this.1.1.1.1
    refine ⟨ax, vs, ds, rfl, rfl, .of hax, RpL.flat ds fl rl, ok, fun H'' p vs' g hp hr' => ?_⟩
    have gH : ∀ b o, H b = some o → H'' b = some o := fun b o eb => g b o (g1.keep b o eb)
    have pn : H p = none := by
      cases q : H p with
      | none => rfl
      | some o => rw [gH p o q] at hp; cases hp
    have kp : ∀ b o, H b = some o → upd H'' p (.lst vs') b = some o := fun b o eb => by
      rw [upd_ne (fun z => by rw [z, pn] at eb; cases eb)]
      exact gH b o eb
    have gg : Grow W H (p :: W) (upd H'' p (.lst vs')) := ⟨kp, fun b h => List.mem_cons_of_mem _ h, fun b h => by
      rcases List.mem_cons.mp h with rfl | h
      · exact .inr pn
      · exact .inl h, fun b h => by
      rcases List.mem_cons.mp h with rfl | h
      · rw [upd_same]; trivial
      · exact (Grow.of sr.wm kp).wm b h⟩
    refine kq _ (p :: W) _ gg ⟨p, vs', rfl, pn, List.mem_cons_self, upd_same, ?_⟩
    have ex : Ex [] H1 [] (upd H'' p (.lst vs')) := ⟨fun _ h => (nomatch h), fun b o eb _ => ⟨by
      have hb := g b o eb
      rw [upd_ne (fun z => by rw [z, hp] at hb; cases hb)]
      exact hb, fun z => nomatch z⟩⟩
    exact RpL.flat _ (flat_sort ok _) (RpL.mono ex _ hr')
  | _ => cases hf
end
end DL

set_option maxHeartbeats 4000000
namespace DL
open PySem PySem.Spec PyProof.Rows L2
/-! # enumerate of a list, t.count(x), l.index(x) -/
section
variable {X : Cx} {W : List Addr} {K : PySem.W.Frag} {H : Hp} {elts : List Expr} {kk : Nat} {tpos : Pos}
def enumD : Nat → List D → List D
  | _, [] => []
  | i, x :: xs => .tup [.int (i : Nat), x] :: enumD (i + 1) xs
theorem enumD_len : ∀ (i : Nat) (xs : List D), (enumD i xs).length = xs.length
  | _, [] => rfl
  | i, x :: xs => by
    show (enumD (i + 1) xs).length + 1 = _
    rw [enumD_len (i + 1) xs]
    rfl
theorem enumD_at : ∀ {xs : List D} {a i : Nat} {d : D}, (enumD a xs)[i]? = some d → ∃ x, xs[i]? = some x ∧ d = .tup [.int ((a + i : Nat) : Int), x]
  | [], _, _, _, h => by cases h
  | x :: xs, a, 0, d, h => by cases h; exact ⟨x, rfl, rfl⟩
  | x :: xs, a, i + 1, d, h => by
    obtain ⟨y, e, q⟩ := enumD_at (xs := xs) (a := a + 1) (i := i) (d := d) h
    exact ⟨y, e, by rw [q]; congr 4; omega⟩
theorem itAt_enumL {a : Addr} {vs : List V} {xs : List D} (wm : WM W H) (h1 : SqL K H a vs) (r1 : RpL W K H xs vs) : ItAt (.Tuple elts kk tpos) W K H (Ite K a) (enumD 0 xs) := by
  refine ⟨fun i d e => ?_, vs, h1, ?_⟩
  · obtain ⟨x, e1, rfl⟩ := enumD_at e
    obtain ⟨v, v1, rv⟩ := r1.get e1
    refine ⟨⟨vs, v, h1, v1⟩, fun z H' q => ?_⟩
    obtain ⟨T, p, rfl, hn, rfl, q1⟩ := q
    have z1 := q1 vs h1
    rw [v1] at z1
    cases z1
    rw [Nat.zero_add]
    have g : Grow W H W (upd H T (.tup [.int (i : Nat), v])) := .tup wm hn
    exact ⟨upd_keep hn, .inr ⟨[.int (i : Nat), x], T, [.int (i : Nat), v], rfl, rfl, .of upd_same, .int (i : Nat), [v], rfl, rfl, v, [], rfl, Rp.mono (g.ex wm) x rv, rfl⟩⟩
  · rw [enumD_len, r1.length]
    exact Nat.le_refl _
@[simp] def enumR : List RV → Option (List D × Bool)
  | [.fz (.lst xs)] => some (enumD 0 xs, true)
  | [.fr xs] => some (enumD 0 xs, true)
  | _ => none
@[simp] def iEnm (fs : FA) : FI := fun e => (fs e).bind enumR
theorem ip_enum {a : Expr} {p pos : Pos} {fs : FA} (hm : X.mg "enumerate" = none) (ha : PPs X [a] fs) (hg : Gl X "enumerate" := by rfl)
    (hs : starEach [a] X.env = [(false, eval a X.env)] := by rfl) : IP X (.Tuple elts kk tpos) (.Call (.Name "enumerate" p) [a] [] pos) (iEnm fs) := by
  refine ⟨⟨fun pins s σ H R I ⟨W, e, ds, bb, sr, hf, k⟩ => ?_⟩⟩
  obtain ⟨rs, e1, hy⟩ := Option.bind_eq_some_iff.mp hf
  refine (pi_enum hg hm ha.pa hs).run pins s σ H R I ⟨W, e, rs, sr, e1, fun vs W1 H1 g1 k1 => ?_⟩
  unfold enumR at hy
  split at hy
  · cases hy
    obtain ⟨v, us, rfl, ⟨a, xs, rfl, h1, r1⟩, en⟩ := k1
    cases (show us = [] from en)
    refine ⟨a, xs, rfl, h1.seq, k _ W1 H1 g1 fun W2 H2 h3 => ?_⟩
    rcases h3 with g2 | ⟨_, x2, wm2⟩
    · exact itAt_enumL g2.wm ((g2.ex g1.wm).lsF h1).seq (RpL.mono (g2.ex g1.wm) _ r1)
    · exact itAt_enumL wm2 (x2.lsF h1).seq (RpL.mono x2 _ r1)
  · cases hy
    obtain ⟨v, us, rfl, ⟨a, xs, rfl, h0, h1, h2, r1⟩, en⟩ := k1
    cases (show us = [] from en)
    have g0 := g1.base sr.wm
    have r0 := RpL.weak g1.sub g1.wm r1
    have na : a ∉ W := fun z => isSome_of_mut (sr.wm a z) h0
    refine ⟨a, xs, rfl, .of h2, k _ W H1 g0 fun W2 H2 h3 => ?_⟩
    rcases h3 with g2 | ⟨_, x2, wm2⟩
    · exact itAt_enumL g2.wm (.of (g2.keep _ _ h2)) (RpL.mono (g2.ex g0.wm) _ r0)
    · exact itAt_enumL wm2 (.of (x2.keep _ _ h2 na).1) (RpL.mono x2 _ r0)
  · cases hy
def rCntT (K : PySem.W.Frag) : V → List V → Hp → VK → Prop := fun x xs H Q => ∃ (p : Addr) (ns : List Int) (k : Int), x = .ref p ∧ xs = [.int k] ∧ SqT K H p (ns.map V.int) ∧ Q (.int (ns.count k : Nat)) H
theorem mt_tcount : MtR X "tuple.count" (rCntT X.K) := by
  intro pins s σ H x xs v us Q I rx rxs h
  obtain ⟨p, ns, k, rfl, rfl, hs, q⟩ := h
  cases rx
  obtain ⟨u, rfl, ru⟩ := rxs.one
  obtain ⟨t, rfl⟩ := ru
  obtain ⟨its, rv, ⟨⟨cls, dd, data, sl⟩, ho, hc, n, hd⟩, hlen⟩ := I.tuple hs
  simp only at hc hd
  subst hc hd
  have hi := ints_of_vals rv
  refine call_meets PySem.F.slot_tuple_count ⟨_, ho, rfl⟩ PySem.F.entry_tuple_count (PySem.F.args_tuple_count_2 _ _)
    (SeqAt.tuple_countAt p its.toArray n dd sl (.int k t) (eqk k)) ⟨ho, fun y hy => (eqk_gives hi y (by simpa using hy)).at _ _, ?_⟩
  have ec : its.toArray.toList.countP (eqk k) = ns.count k := eqk_count hi
  refine ⟨.int (ns.count k : Nat), H, I.tok _, ⟨s.toks, ?_⟩, q⟩
  show Value.int ((its.toArray.toList.countP (eqk k) : Nat) : Int) s.toks = Value.int ((ns.count k : Nat) : Int) s.toks
  rw [ec]
theorem tqT_is {pins : List (Addr × Obj)} {σ : St} {s : Shared} {p : Addr} {xs : List V} (I : Inv X pins σ H s) (h : TqT X.K H p xs) : s.TypeIs (.ref p) "tuple" ∧ ∀ a, Value.ref p = .ref a → ∃ ob, s.heap.get? a = some ob ∧ ob.dict = none := by
  obtain ⟨its, _, ht, _⟩ := I.tuple h.1
  refine ⟨ht.typeIs, fun a e => ?_⟩
  cases e
  rcases h.2 with ⟨o, u, e, hd⟩ | ⟨o, e, hd⟩
  · exact ⟨o, (I.hok p _ e).1, hd⟩
  · exact ⟨o, I.kIn p o e, hd⟩
def tBMT (K : PySem.W.Frag) (r : V → List V → Hp → VK → Prop) (to : TE) (t : TA) : TE := fun σ H Q => to σ H fun x H1 => (∃ p xs, x = .ref p ∧ TqT K H1 p xs) ∧ t σ H1 fun xs H2 => r x xs H2 Q
theorem pe_bmT {o a : Expr} {to : TE} {t : TA} {name : Str} {apos cpos : Pos} {id : String} {r : V → List V → Hp → VK → Prop} (slot : Slot "tuple" name id) (hty : typeOf (.builtin id) = pure (.type "method_descriptor")) (hm : MtR X id r) (ho : PE X o to) (ha : PA X [a] t)
    (hbase : attributeBase o name X.env (eval o X.env) = eval o X.env := by rfl)
    (hfew : ((backTo cpos (starEach [a] X.env)).all (fun x => !x.1) && (backToKw cpos (keywordEach [] X.env)).all (fun x => x.1.isSome) && decide (([a] : List Expr).length + ([] : List Keyword).length + (if ([] : List Keyword).isEmpty then 0 else 1) < 30)) = true := by rfl)
    (hline : (apos.endLine == cpos.line) = true := by rfl) (hs : starEach [a] X.env = (false, eval a X.env) :: starEach [] X.env := by rfl) (hplain : (backTo cpos (starEach [] X.env)).any (·.1) = false := by rfl) :
    PE X (.Call (.Attribute o name apos) [a] [] cpos) (tBMT X.K r to t) := by
  refine ⟨fun pins s σ H Q I h => wpAny_Call_method_late hbase hfew hline rfl (thn (ho.run pins s σ H _ I h) fun v s1 ⟨x, H1, I1, r1, ⟨p, ys, ex, ty⟩, q1⟩ => ?_)⟩
  subst ex
  cases r1
  obtain ⟨h1, h2⟩ := tqT_is I1 ty
  have hA := ha.run cpos pins s1 σ H1 _ I1 q1
  rw [hs] at hA
  refine ⟨"tuple", id, F.plainAttrs_tuple, slot, hty, h1, h2, ?_⟩
  rw [hs]
  exact Calls.callWith_builtin (by show (false || (backTo cpos (starEach [] X.env)).any (·.1)) = false; rw [hplain] <;> rfl) (Calls.evalArgs_plain (thn hA fun us s2 ⟨vs, H2, I2, r2, q2⟩ => hm pins s2 σ H2 (.ref p) vs _ us Q I2 rfl r2 q2))
@[simp] def tcR : D → D → Option RV
  | .tup xs, .int i => (ints? xs).map fun ns => .fz (.int (ns.count i : Nat))
  | _, _ => none
@[simp] def pTc (fo fa : FP) : FP := fun e => (fo e).bind fun r => (fa e).bind fun x => tcR r.view x.view
theorem pp_tcount {o a : Expr} {fo fa : FP} {apos cpos : Pos} (ho : PP X o fo) (ha : PP X a fa)
    (hbase : attributeBase o "count" X.env (eval o X.env) = eval o X.env := by rfl)
    (hfew : ((backTo cpos (starEach [a] X.env)).all (fun x => !x.1) && (backToKw cpos (keywordEach [] X.env)).all (fun x => x.1.isSome) && decide (([a] : List Expr).length + ([] : List Keyword).length + (if ([] : List Keyword).isEmpty then 0 else 1) < 30)) = true := by rfl)
    (hline : (apos.endLine == cpos.line) = true := by rfl) (hs : starEach [a] X.env = (false, eval a X.env) :: starEach [] X.env := by rfl) (hplain : (backTo cpos (starEach [] X.env)).any (·.1) = false := by rfl) :
    PP X (.Call (.Attribute o "count" apos) [a] [] cpos) (pTc fo fa) := by
  obtain ⟨to, po, ko⟩ := ho.run
  obtain ⟨t, pa, ka⟩ := ha.run
  refine PP.of ⟨_, pe_bmT F.slot_tuple_count F.type_tuple_count mt_tcount po (pa_cons pa pa_nil hs) hbase hfew hline hs hplain, fun W H σ e Q r sr hf k => ?_⟩
  obtain ⟨r1, e1, hy⟩ := Option.bind_eq_some_iff.mp hf
  obtain ⟨r2, e2, hw⟩ := Option.bind_eq_some_iff.mp hy
  refine ko W H σ e _ r1 sr e1 fun v W1 H1 g1 k1 => ?_
  have hv := k1.vz
  revert hv hw
  generalize r1.view = d1
  intro hw hv
  unfold tcR at hw
  split at hw
  · rename_i xs i hi
    obtain ⟨ns, en, hw⟩ := Option.map_eq_some_iff.mp hw
    cases hw
    obtain ⟨p, vs, rfl, hq, r0⟩ := hv
    refine ⟨⟨p, vs, rfl, hq⟩, ka W1 H1 σ e _ r2 (g1.sr sr) e2 fun u W2 H2 g2 k2 => ?_⟩
    have hu := k2.vz
    rw [hi] at hu
    cases (show u = .int i from hu)
    have eq := ints_ok r0 en
    subst eq
    exact ⟨p, ns, i, rfl, rfl, (g2.ex g1.wm).sqT hq.1, k _ W2 H2 (g1.trans g2) rfl⟩
  · cases hw
@[simp] def liR : D → D → Option RV
  | .lst xs, .int i => (ints? xs).bind fun ns => if i ∈ ns then some (.fz (.int (ns.idxOf i : Nat))) else none
  | _, _ => none
@[simp] def pLi (fo fa : FP) : FP := fun e => (fo e).bind fun r => (fa e).bind fun x => liR r.view x.view
theorem idx_of {ns : List Int} {i : Int} (h : i ∈ ns) : (ns.map V.int)[ns.idxOf i]? = some (.int i) ∧ ∀ (m : Nat) (z : V), m < ns.idxOf i → (ns.map V.int)[m]? = some z → eqV z (.int i) = false := by
  refine ⟨?_, fun m z hm hz => ?_⟩
  · rw [List.getElem?_map, List.getElem?_eq_getElem (List.idxOf_lt_length_of_mem h), List.getElem_idxOf]
    rfl
  · rw [List.getElem?_map] at hz
    have hl : m < ns.length := Nat.lt_trans hm (List.idxOf_lt_length_of_mem h)
    rw [List.getElem?_eq_getElem hl] at hz
    cases hz
    show (ns[m] == i) = false
    have := List.not_of_lt_findIdx (p := (· == i)) (xs := ns) (i := m) hm
    exact this
theorem pp_lindex {o a : Expr} {fo fa : FP} {apos cpos : Pos} (ho : PP X o fo) (ha : PP X a fa)
    (hbase : attributeBase o "index" X.env (eval o X.env) = eval o X.env := by rfl)
    (hfew : ((backTo cpos (starEach [a] X.env)).all (fun x => !x.1) && (backToKw cpos (keywordEach [] X.env)).all (fun x => x.1.isSome) && decide (([a] : List Expr).length + ([] : List Keyword).length + (if ([] : List Keyword).isEmpty then 0 else 1) < 30)) = true := by rfl)
    (hline : (apos.endLine == cpos.line) = true := by rfl) (hs : starEach [a] X.env = (false, eval a X.env) :: starEach [] X.env := by rfl) (hplain : (backTo cpos (starEach [] X.env)).any (·.1) = false := by rfl) :
    PP X (.Call (.Attribute o "index" apos) [a] [] cpos) (pLi fo fa) := by
  obtain ⟨to, po, ko⟩ := ho.run
  obtain ⟨t, pa, ka⟩ := ha.run
  refine PP.of ⟨_, pe_bm F.plainAttrs_list F.slot_list_index F.type_list_index mt_index po (pa_cons pa pa_nil hs) hbase hfew hline hs hplain, fun W H σ e Q r sr hf k => ?_⟩
  obtain ⟨r1, e1, hy⟩ := Option.bind_eq_some_iff.mp hf
  obtain ⟨r2, e2, hw⟩ := Option.bind_eq_some_iff.mp hy
  refine ko W H σ e _ r1 sr e1 fun v W1 H1 g1 k1 => ?_
  have hv := k1.vz
  revert hv hw
  generalize r1.view = d1
  intro hw hv
  unfold liR at hw
  split at hw
  · rename_i xs i hi
    obtain ⟨ns, en, hw⟩ := Option.bind_eq_some_iff.mp hw
    split at hw
    rotate_left
    · cases hw
    rename_i him
    cases hw
    obtain ⟨p, vs, rfl, hq, r0⟩ := hv
    refine ⟨.inl ⟨rfl, vs, .of hq⟩, ka W1 H1 σ e _ r2 (g1.sr sr) e2 fun u W2 H2 g2 k2 => ?_⟩
    have hu := k2.vz
    rw [hi] at hu
    cases (show u = .int i from hu)
    have eq := ints_ok r0 en
    subst eq
    obtain ⟨q1, q2⟩ := idx_of him
    exact ⟨p, ns.map V.int, .int i, ns.idxOf i, .int i, rfl, rfl, .of (g2.keep _ _ hq), rfl, by rw [List.all_map]; exact List.all_eq_true.mpr fun _ _ => rfl, q1, beq_self_eq_true i, q2, k _ W2 H2 (g1.trans g2) rfl⟩
  · cases hw
end
end DL

set_option maxHeartbeats 4000000
namespace DL
open PySem PySem.Spec PyProof.Rows L2
/-! # From here on the list of slot i stands frozen -/
@[simp] def frz (i : Nat) (e : En) : En := match e[i]? with
  | some (some (.lst xs)) => e.set i (some (.d (.lst xs)))
  | _ => e
@[simp] def sFz (i : Nat) (f : FS) : FS := fun e => f (frz i e)
section
variable {X : Cx} {Wx : WX} {lk : List Nat} {W : List Addr} {K : PySem.W.Frag} {H : Hp} {σ : St} {e : En}
theorem frz_sr (i : Nat) (sr : SR W K H σ e) : ∃ W', SR W' K H σ (frz i e) ∧ EX W H σ e W' H σ (frz i e) := by
  by_cases hx : ∃ xs, e[i]? = some (some (.lst xs))
  rotate_left
  · have : frz i e = e := by
      unfold frz
      split
      · rename_i xs h
        exact absurd ⟨xs, h⟩ hx
      · rfl
    rw [this]
    exact ⟨W, sr, .refl⟩
  obtain ⟨xs, hx⟩ := hx
  have hf : frz i e = e.set i (some (.d (.lst xs))) := by unfold frz; rw [hx]
  rw [hf]
  obtain ⟨v, hv, a, vs, rfl, ha, hl, hr⟩ := sr.sl i _ hx
  have hi : i < e.length := by
    rcases Nat.lt_or_ge i e.length with q | q
    · exact q
    · rw [List.getElem?_eq_none q] at hx; cases hx
  have oa : Ow σ e a := ⟨i, _, hx, rfl, hv⟩
  have sub : ∀ b ∈ W.filter (· ≠ a), b ∈ W := fun b hb => (List.mem_filter.mp hb).1
  have inn : ∀ b, b ∈ W → b ≠ a → b ∈ W.filter (· ≠ a) := fun b hb n => List.mem_filter.mpr ⟨hb, decide_eq_true n⟩
  have wm' : WM (W.filter (· ≠ a)) H := fun b hb => sr.wm b (sub b hb)
  have wk : ∀ {d : D} {u : V}, Rp W K H d u → Rp (W.filter (· ≠ a)) K H d u := fun h => Rp.weak sub wm' h sr.wm
  have ow' : ∀ b, Ow σ (e.set i (some (.d (.lst xs)))) b → Ow σ e b ∧ b ≠ a := fun b ⟨j, s, h1, h2, h3⟩ => by
    by_cases z : i = j
    · subst z
      rw [List.getElem?_set_self hi] at h1
      cases h1
      cases h2
    · rw [List.getElem?_set_ne z] at h1
      refine ⟨⟨j, s, h1, h2, h3⟩, fun q => z ?_⟩
      subst q
      exact sr.one i j _ s b hx h1 rfl h2 hv h3
  refine ⟨W.filter (· ≠ a), ⟨wm', by rw [List.length_set]; exact sr.len, fun j s q => ?_, fun j l s t b q1 q2 o1 o2 h1 h2 => ?_⟩, ⟨fun b o h _ => h, fun b o _ n q => n (sub b q), fun b hb n => ⟨inn b hb fun q => n (by rw [q]; exact oa), fun q => n (ow' b q).1⟩, fun b q => .inl (ow' b q).1, fun _ q => q⟩⟩
  · by_cases z : i = j
    · subst z
      rw [List.getElem?_set_self hi] at q
      cases q
      exact ⟨_, hv, a, vs, rfl, ⟨hl, fun q => by
        have := (List.mem_filter.mp q).2
        simp at this⟩, RpL.weak sub sr.wm hr⟩
    · rw [List.getElem?_set_ne z] at q
      obtain ⟨u, h1, h2⟩ := sr.sl j s q
      refine ⟨u, h1, ?_⟩
      cases s with
      | d x => exact wk h2
      | lst ys =>
        obtain ⟨b, us, rfl, hb, hbl, hbr⟩ := h2
        refine ⟨b, us, rfl, inn b hb fun q => z ?_, hbl, RpL.weak sub sr.wm hbr⟩
        subst q
        exact sr.one i j _ _ b hx q rfl rfl hv h1
  · by_cases z1 : i = j
    · subst z1
      rw [List.getElem?_set_self hi] at q1
      cases q1
      cases o1
    · by_cases z2 : i = l
      · subst z2
        rw [List.getElem?_set_self hi] at q2
        cases q2
        cases o2
      · rw [List.getElem?_set_ne z1] at q1
        rw [List.getElem?_set_ne z2] at q2
        exact sr.one j l s t b q1 q2 o1 o2 h1 h2
theorem sds_frz {sts : List Stmt} {f : FS} (i : Nat) (h : SDs X Wx lk sts f) : SDs X Wx lk sts (sFz i f) := by
  obtain ⟨t, p, k⟩ := h.run
  refine SDs.of ⟨t, p, fun W H σ e D sr hk => ?_⟩
  obtain ⟨W', sr', x⟩ := frz_sr i sr
  exact k W' H σ (frz i e) D sr' (FlK.go x (fun _ _ => rfl) hk)
end
end DL

set_option maxHeartbeats 4000000
namespace DL
open PySem PySem.Spec PyProof.Rows L2
/-! # {t: True for t in ts}, the keys tuples; sorted by a key -/
abbrev XE := List Key × Addr × Value
/-- a dict with tuple keys, by its own object alone -/
def DX (P : Program) (w : World) (D : Addr) (xs : List XE) : HO := .ext fun h => ∃ o es ep, h.get? D = some o ∧ o.ExactDict ∧ o.data = .dict es ep ∧ es.toList = xs.map (entryOfKey (tupleKind (mixKind P w)))
section
variable {P : Program} {w : World} {H : Hp} {h : Heap} {D : Addr} {xs : List XE}
theorem dx_of (x : ObjOk P w H h D (DX P w D xs)) : ∃ o es ep, h.get? D = some o ∧ o.ExactDict ∧ o.data = .dict es ep ∧ es.toList = xs.map (entryOfKey (tupleKind (mixKind P w))) := x.1
theorem dx_mk {o : Obj} {es : Array DictEntry} {ep : Nat} (ho : h.get? D = some o) (hx : o.ExactDict) (hd : o.data = .dict es ep) (he : es.toList = xs.map (entryOfKey (tupleKind (mixKind P w)))) : ObjOk P w H h D (DX P w D xs) :=
  ⟨⟨o, es, ep, ho, hx, hd, he⟩, ⟨o, ho⟩, fun h1 h2 ⟨o, es, ep, ho, hx, hd, he⟩ k => ⟨o, es, ep, k o ho, hx, hd, he⟩⟩
end
/-- the keys' tuples stand -/
def DXk (K : PySem.W.Frag) (H : Hp) (xs : List XE) : Prop := (∀ x ∈ xs, SqT K H x.2.1 (x.1.map kV)) ∧ (xs.map (·.1)).Nodup
section
variable {X : Cx} {pins : List (Addr × Obj)} {σ : St} {H : Hp} {s : Shared} {D b : Addr} {xs : List XE}
theorem key_is {ks : List Key} (I : Inv X pins σ H s) (hb : SqT X.K H b (ks.map kV)) : (tupleKind (mixKind X.prog X.w)).is s.heap ks b := by
  obtain ⟨its, r, ⟨o, h1, h2, n, h3⟩, _⟩ := I.tuple hb
  exact ⟨o, its.toArray, n, h1, h2, h3, by simpa using items_are r⟩
theorem x_dictSet {A : Around} {E : Value → Shared → Prop} {k : List Key} {r : Value} {Q : Unit → Shared → Prop} (hu : A.units < cLine) (I : Inv X pins σ H s) (hD : H D = some (DX X.prog X.w D xs)) (hk : DXk X.K H xs) (hb : SqT X.K H b (k.map kV)) (hz : xs.length ≤ sizeLine)
    (h : ∀ s', Inv X pins σ (upd H D (DX X.prog X.w D (storedH xs k b r))) s' → Q () s') : wpAny (model X.prog X.w) A (dictSet D (.ref b) r) Q E s := by
  obtain ⟨o, es, ep, ho, hx, hd, he⟩ := dx_of (I.hok D _ hD)
  refine wpAny_dictSet_heap (knd := tupleKind (mixKind X.prog X.w)) (hsz := hz) hu (key_is I hb) ⟨o, es, ep, ho, hx, hd, he, fun x hx => key_is I (hk.1 x hx), hk.2⟩ fun h' dd' hs => h _ ?_
  obtain ⟨o', es', ep', ho', hx', hd', he', _, _⟩ := dd'
  exact d_write I (by rw [hD]; exact True.intro) hs ⟨o', ho'⟩ (dx_mk ho' hx' hd' he')
end
section
variable {X : Cx}
/-- {k: v for target in iter}, the keys tuples: D the new dict -/
def tDx (P : Program) (w : World) (K : PySem.W.Frag) (wi : TI) (g : TG) (tk tv : TE) (vs : List Nat) : TE := fun σ H Q => wi σ H fun J H1 => ∀ D, H1 D = none → (D == sysModules) = false → ∃ Wi : Nat → Nat → Hp → Prop, (∃ m, Wi 0 m (upd H1 D (DX P w D []))) ∧ ∀ i m H, Wi i m H →
  (J.stop i H ∧ Q (.ref D) H) ∨ (J.go i H ∧ ∃ Nx : Hp → Prop, (∀ H', Nx H' → ∃ m', m' < m ∧ Wi (i + 1) m' H') ∧ ∀ x H', J.yld i H x H' → g x (wipe σ vs) H' fun σ2 H2 => wipe σ2 vs = wipe σ vs ∧
    tk σ2 H2 fun y H4 => tv σ2 H4 fun z H5 => ∃ xs k b, y = .ref b ∧ H5 D = some (DX P w D xs) ∧ xs.length ≤ sizeLine ∧ SqT K H5 b (k.map kV) ∧ DXk K H5 xs ∧ ∀ r, RelV z r → Nx (upd H5 D (DX P w D (storedH xs k b r))))
theorem pe_dx {kx vx tg iter : Expr} {scope : Scope} {own : List (Str × Nat)} {pos : Pos} {wi : TI} {g : TG} {tk tv : TE} (hc : X.calm = true) (hN : X.N.Nodup) (hu : X.A.units < cLine) (hi : PI X tg iter wi) (ok : BlkOk X.N X.env.scope scope own)
    (hg : ∀ (s : Shared) (H : Hp) (C : Addr) (cl : List (Str × Addr)) (fp : List Addr), PG (X.blk s H scope (compEnvC scope cl C X.env) fp) tg g)
    (hk : ∀ (s : Shared) (H : Hp) (C : Addr) (cl : List (Str × Addr)) (fp : List Addr), PE (X.blk s H scope (compEnvC scope cl C X.env) fp) kx tk)
    (hv : ∀ (s : Shared) (H : Hp) (C : Addr) (cl : List (Str × Addr)) (fp : List Addr), PE (X.blk s H scope (compEnvC scope cl C X.env) fp) vx tv) (hs : ∀ x, foldedSetIterable iter X.env x = pure x := by intro _; rfl) :
    PE X (.DictComp kx vx [⟨tg, iter, [], 0⟩] scope pos) (tDx X.prog X.w X.K wi g tk tv (own.map (·.2))) := by
  refine ⟨fun pins s σ H Q I h => ?_⟩
  rw [arm_eval_DictComp]
  have free : ∀ y ∈ scope.names, y.2 = .free → ∃ c, X.env.cells.lookup y.1 = some c := fun y hy e => (ok.free y hy e).elim (fun k => I.ok.has _ (.inl k)) fun k => I.ok.has _ (.inr k)
  refine wpAny_comprehension_free rfl hs (closure_ok free) ok.kind (fun y hy e => by rw [ok.uniq y hy, e]) (thn (hi.run pins s σ H _ I h) fun xv s1 hx => thn hx fun itv s2 h2 => ?_)
  obtain ⟨it, fp, tn, J, H2, e, I2, T, st2, f2, q⟩ := h2
  subst e
  refine wpAny_newObj_type (newEnv_comp ?_)
  obtain ⟨D, hD⟩ : ∃ D, D = s2.heap.objs.size := ⟨_, rfl⟩
  rw [← hD]
  have hDn : H2 D = none := I2.hok.fresh (Nat.le_of_eq hD.symm)
  have hsys : (D == sysModules) = false := beq_eq_false_iff_ne.mpr (by rw [hD]; exact Nat.ne_of_gt I2.big)
  obtain ⟨Wi, ⟨m0, w0⟩, turn⟩ := q D hDn hsys
  obtain ⟨s3, e3⟩ : ∃ s3 : Shared, s3 = { s2 with heap := s2.heap.push { cls := .type "dict", data := .dict #[] } } := ⟨_, rfl⟩
  have h3 : s3.heap = s2.heap.push { cls := .type "dict", data := .dict #[] } := by rw [e3]
  obtain ⟨H3, eH3⟩ : ∃ H3, H3 = upd H2 D (DX X.prog X.w D []) := ⟨_, rfl⟩
  have I3 : Inv X pins σ H3 s3 := by
    rw [e3, eH3]
    refine I2.laid (t' := s2.toks) (fun b o e => Heap.get?_push_of_some _ e) (Nat.le_of_eq hD.symm) (dx_mk (o := { cls := .type "dict", data := .dict #[] }) (es := #[]) (ep := 0) ?_ ⟨rfl, rfl, rfl⟩ rfl rfl)
    rw [hD]
    exact Heap.get?_push_size _ rfl
  have sz : ∀ b ∈ fp, b < s2.heap.objs.size := fun b hb => let ⟨o, e, _⟩ := T.obj _ _ st2 b hb; Heap.lt_size e
  have f3 : ∀ b ∈ fp, FpOk X pins H3 b ∧ b < s3.heap.objs.size := fun b hb => by
    have lt := sz b hb
    refine ⟨⟨?_, (f2 b hb).2⟩, by rw [h3, Heap.size_push]; exact Nat.lt_succ_of_lt lt⟩
    rw [eH3, upd_ne (by rw [hD]; exact Nat.ne_of_lt lt)]
    exact (f2 b hb).1
  have st3 : tn 0 s3.heap := T.keep _ _ _ st2 fun b _ o e => by rw [h3]; exact Heap.get?_push_of_some _ e
  have I4 := block_start I3 ok hN f3
  have n3 : ∀ b ∈ fp, H3 b = none := fun b hb => (f3 b hb).1.1
  rw [← eH3] at w0
  show codeAny _ _ (.compStart (.DictComp kx vx [⟨tg, iter, [], 0⟩] scope pos) 0 (.ref it) (.ref D) (compEnvC scope (cellsFrom ((s2.heap.push { cls := .type "dict", data := .dict #[] }).objs.size + 1) scope.names (cloFrom X.env.cells scope.names [])) (s2.heap.push { cls := .type "dict", data := .dict #[] }).objs.size X.env)) (compPost (model X.prog X.w) X.A X.xe _ _ (.ref D) (s2.heap.push { cls := .type "dict", data := .dict #[] }).objs.size) { s2 with heap := pushCells ((s2.heap.push { cls := .type "dict", data := .dict #[] }).push { cls := .type "dict", data := .dict #[] }) scope.names }
  obtain ⟨ce, hce⟩ : ∃ ce, ce = compEnvC scope (cellsFrom (s3.heap.objs.size + 1) scope.names (cloFrom X.env.cells scope.names [])) s3.heap.objs.size X.env := ⟨_, rfl⟩
  have pg := hg s3 H3 s3.heap.objs.size (cellsFrom (s3.heap.objs.size + 1) scope.names (cloFrom X.env.cells scope.names [])) fp
  have pk := hk s3 H3 s3.heap.objs.size (cellsFrom (s3.heap.objs.size + 1) scope.names (cloFrom X.env.cells scope.names [])) fp
  have pv := hv s3 H3 s3.heap.objs.size (cellsFrom (s3.heap.objs.size + 1) scope.names (cloFrom X.env.cells scope.names [])) fp
  rw [← h3]
  rw [← hce] at I4 pg pk pv ⊢
  have cL : ce.locals = s3.heap.objs.size := by rw [hce]; rfl
  obtain ⟨s4, e4⟩ : ∃ s4 : Shared, s4 = { s3 with heap := pushCells (s3.heap.push { cls := .type "dict", data := .dict #[] }) scope.names } := ⟨_, rfl⟩
  have e4' : ({ s2 with heap := pushCells (s3.heap.push { cls := .type "dict", data := .dict #[] }) scope.names } : Shared) = s4 := by rw [e4, e3]
  rw [e4']
  rw [← e4] at I4
  have st4 : tn 0 s4.heap := T.keep _ _ _ st3 fun b _ o e => by rw [e4]; exact pushCells_keeps _ _ _ _ (Heap.get?_push_of_some _ e)
  have stat : ∀ {σ' : St} {H' : Hp} {s' : Shared}, Inv (X.blk s3 H3 scope ce fp) [] σ' H' s' → (∀ b ∈ fp, H' b = none) → ∀ b ∈ fp, FpOk (X.blk s3 H3 scope ce fp) [] H' b := fun {σ' H' s'} I' hn b hb =>
    ⟨hn b hb, (I'.ok.exf b hb).1, I'.ok.exfs b hb, .inl hb, fun x c e => (I'.ok.exf b hb).2 x c e, fun p hp => absurd (show p ∈ ([] : List (Addr × Obj)) ++ [] from hp) (by simp)⟩
  have loop : codeAny (model X.prog X.w) X.A (.compLoop (.DictComp kx vx [⟨tg, iter, [], 0⟩] scope pos) 0 (.ref it) (.ref D) ce) (compPost (model X.prog X.w) X.A X.xe none (EP X pins σ Q) (.ref D) s3.heap.objs.size) s4 := by
    refine compLoop_anyD (fun n s' => ∃ i H', Inv (X.blk s3 H3 scope ce fp) [] (wipe σ (own.map (·.2))) H' s' ∧ tn i s'.heap ∧ (∀ b ∈ fp, H' b = none) ∧ Wi i n H') ?_ m0 ⟨0, H3, I4, st4, n3, w0⟩
    rintro n s5 ⟨i, H5, I5, st5, n5, w5⟩
    rcases turn i n H5 w5 with ⟨stop, qq⟩ | ⟨go, Nx, hNx, step⟩
    · refine thnF (T.done (X.blk s3 H3 scope ce fp) rfl rfl rfl hc i [] s5 _ H5 (fun _ _ => False) I5 (stat I5 n5) st5 stop) fun r s6 ⟨hr, I6⟩ => ?_
      subst hr
      have I7 : Inv X pins σ H5 s6 := I3.call' (ch := fp) I6.os I6.base I6.hok I6.bare fun b hb => ⟨(f3 b hb).1.2.2.2.1, (f3 b hb).1.2.1, (f3 b hb).1.2.2.2.2.1, (f3 b hb).1.2.2.2.2.2⟩
      have nC : H5 s3.heap.objs.size = none := by
        have z : H5 ce.locals = none := I6.free
        rw [cL] at z
        exact z
      obtain ⟨m, hn, _⟩ := I6.loc
      have hn : s6.heap.Ns ce.locals m := hn
      rw [cL] at hn
      refine ⟨m, hn, fun h'' sb => ?_⟩
      obtain ⟨g0, g1, _, g3, g4, g5⟩ := I3.fpOk (H' := H5) (Nat.le_refl _) nC
      exact ⟨.ref D, H5, I7.turned (t' := s6.toks) (fun b o hb e => (sb.2 b hb).trans e) g0 g1 g3 g4 g5, rfl, qq⟩
    · refine thnF (T.item (X.blk s3 H3 scope ce fp) rfl rfl rfl hc i [] s5 _ H5 (fun _ _ => False) I5 (stat I5 n5) st5 go) fun r s6 ⟨u, hr, h6⟩ => ?_
      subst hr
      refine thnF h6 fun _ s7 ⟨x, H7, I7, r7, y7, st7, n7⟩ => ?_
      have I7' := I7.pinned (stat I7 n7) (T.obj _ _ st7)
      refine thnF (pg.run _ s7 _ H7 x u _ I7' r7 (step x H7 y7)) fun _ s8 ⟨σ8, H8, I8, hw8, q8⟩ => ?_
      have fin : ∀ {s' : Shared} {H' : Hp}, Inv (X.blk s3 H3 scope ce fp) ([] ++ pinsAt fp s7.heap) σ8 H' s' → Nx H' → ∃ m, m < n ∧ ∃ i H', Inv (X.blk s3 H3 scope ce fp) [] (wipe σ (own.map (·.2))) H' s' ∧ tn i s'.heap ∧ (∀ b ∈ fp, H' b = none) ∧ Wi i m H' := fun {s' H'} I' nx => by
        obtain ⟨m', hm, w'⟩ := hNx H' nx
        have pin' : ∀ b ∈ fp, ∀ o, s7.heap.get? b = some o → s'.heap.get? b = some o ∧ H' b = none := fun b hb o e =>
          let z := I'.pin (b, o) (List.mem_append_right _ (List.mem_append_right _ (mem_pinsAt hb e)))
          ⟨z.1, z.2.1⟩
        refine ⟨m', hm, i + 1, H', (I'.unpinned (pins := [])).weak (by rw [← hw8, wipe_length]) (fun j v e => by rw [← hw8] at e; exact (wipe_some e).1), T.keep _ _ _ st7 fun b hb o e => (pin' b hb o e).1, fun b hb => ?_, w'⟩
        obtain ⟨o, e, _⟩ := T.obj _ _ st7 b hb
        exact (pin' b hb o e).2
      refine wpAny_pure ?_
      rw [if_pos rfl]
      refine thnF (pk.run _ s8 σ8 H8 _ I8 q8) fun z s10 ⟨yk, H10, I10, r10, q10⟩ => ?_
      refine thnF (pv.run _ s10 σ8 H10 _ I10 q10) fun z2 s11 ⟨yv, H11, I11, r11, xs, k, b, ek, hD11, hz11, hb11, hk11, nx⟩ => ?_
      subst ek
      cases (show z = Value.ref b from r10)
      exact x_dictSet (X := X.blk s3 H3 scope ce fp) hu I11 hD11 hk11 hb11 hz11 fun s12 I12 => fin I12 (nx _ r11)
  exact codeAny_compStart_dict loop (T.self X.A 0 _ _ _ st4 loop)
end
end DL

set_option maxHeartbeats 4000000
namespace DL
open PySem PySem.Spec PyProof.Rows L2
/-! # sorted({t: True for t in ts}, key=f) -/
def keyI (w : List Int) : List Key := w.map Sum.inl
theorem keyI_inj {v w : List Int} (h : keyI v = keyI w) : v = w := by
  unfold keyI at h
  exact (List.map_inj_right fun a b q => Sum.inl.inj q).mp h
theorem keyI_V (w : List Int) : (keyI w).map kV = w.map V.int := by
  unfold keyI
  rw [List.map_map]
  rfl
abbrev twD (w : List Int) : D := .tup (dints w)
/-- unlike ones, the first ones stay -/
def addU (acc : List (List Int)) (w : List Int) : List (List Int) := if w ∈ acc then acc else acc ++ [w]
def uniq (ws : List (List Int)) : List (List Int) := ws.foldl addU []
theorem uniq_snoc (ws : List (List Int)) (w : List Int) : uniq (ws ++ [w]) = addU (uniq ws) w := by
  unfold uniq
  rw [List.foldl_append]
  rfl
@[simp] def iw? : D → Option (List Int)
  | .tup xs => ints? xs
  | _ => none
def iws? : List D → Option (List (List Int))
  | [] => some []
  | d :: ds => (iw? d).bind fun w => (iws? ds).map fun ws => w :: ws
theorem ints_eq : ∀ {ds : List D} {bs : List Int}, ints? ds = some bs → ds = dints bs
  | [], _, h => by cases h; rfl
  | d :: ds, bs, h => by
    cases d with
    | int b =>
      obtain ⟨cs, e2, rfl⟩ := Option.map_eq_some_iff.mp (show (ints? ds).map (b :: ·) = some bs from h)
      rw [ints_eq e2]
      rfl
    | _ => cases h
theorem iws_eq : ∀ {ds : List D} {ws : List (List Int)}, iws? ds = some ws → ds = ws.map twD
  | [], _, h => by cases h; rfl
  | d :: ds, ws, h => by
    obtain ⟨w, h1, h⟩ := Option.bind_eq_some_iff.mp h
    obtain ⟨vs, h2, rfl⟩ := Option.map_eq_some_iff.mp h
    rw [iws_eq h2]
    cases d with
    | tup xs =>
      rw [ints_eq (show ints? xs = some w from h1)]
      rfl
    | _ => cases h1
theorem rp_ints_eq {W : List Addr} {K : PySem.W.Frag} {H : Hp} : ∀ {w : List Int} {vs : List V}, RpL W K H (dints w) vs → vs = w.map V.int
  | [], vs, h => h
  | i :: w, vs, ⟨v, r, e, h1, h2⟩ => by
    rw [e, rp_ints_eq h2, show v = .int i from h1]
    rfl
/-- the dict's entries tell the words -/
structure XsOk (W : List Addr) (K : PySem.W.Frag) (H : Hp) (xs : List XE) (acc : List (List Int)) : Prop where
  keys : xs.map (·.1) = acc.map keyI
  rp : RpL W K H (acc.map twD) (xs.map fun x => V.ref x.2.1)
  nd : acc.Nodup
theorem XsOk.len {W : List Addr} {K : PySem.W.Frag} {H : Hp} {xs : List XE} {acc : List (List Int)} (h : XsOk W K H xs acc) : xs.length = acc.length := by
  have := congrArg List.length h.keys
  rw [List.length_map, List.length_map] at this
  exact this
theorem xs_sq {W : List Addr} {K : PySem.W.Frag} {H : Hp} : ∀ {xs : List XE} {acc : List (List Int)}, xs.map (·.1) = acc.map keyI → RpL W K H (acc.map twD) (xs.map fun x => V.ref x.2.1) → ∀ x ∈ xs, SqT K H x.2.1 (x.1.map kV)
  | [], _, _, _ => fun x hx => nomatch hx
  | x :: xs, [], k, _ => by cases k
  | x :: xs, w :: acc, k, r => by
    rw [List.map_cons, List.map_cons] at k
    injection k with k1 k2
    obtain ⟨v, us, e, h1, h2⟩ := r
    rw [List.map_cons] at e
    injection e with e1 e2
    subst e1 e2
    intro y hy
    rcases List.mem_cons.mp hy with rfl | hy
    · obtain ⟨a, vs, ea, hq, hr⟩ := h1
      injection ea with ea
      rw [ea, k1, keyI_V, ← rp_ints_eq hr]
      exact hq.1
    · exact xs_sq k2 h2 y hy
theorem addU_len (acc : List (List Int)) (w : List Int) : (addU acc w).length ≤ acc.length + 1 := by
  unfold addU
  split
  · omega
  · rw [List.length_append]; exact Nat.le_refl _
theorem uniq_len (ws : List (List Int)) : (uniq ws).length ≤ ws.length := by
  have : ∀ (ws acc : List (List Int)), (ws.foldl addU acc).length ≤ acc.length + ws.length := by
    intro ws
    induction ws with
    | nil => exact fun acc => Nat.le_refl _
    | cons w ws ih =>
      intro acc
      have a := ih (addU acc w)
      have b := addU_len acc w
      rw [List.foldl_cons, List.length_cons]
      omega
  have q := this ws []
  rw [List.length_nil, Nat.zero_add] at q
  exact q
theorem XsOk.dxk {W : List Addr} {K : PySem.W.Frag} {H : Hp} : ∀ {xs : List XE} {acc : List (List Int)}, XsOk W K H xs acc → DXk K H xs := fun {xs acc} h => by
  refine ⟨?_, ?_⟩
  · exact xs_sq h.keys h.rp
  · rw [h.keys]
    exact (List.pairwise_map).mpr (h.nd.imp fun n q => n (keyI_inj q))
theorem XsOk.put {W : List Addr} {K : PySem.W.Frag} {H : Hp} {xs : List XE} {acc : List (List Int)} {w : List Int} {b : Addr} {r : Value} (h : XsOk W K H xs acc) (hb : Rp W K H (twD w) (.ref b)) : XsOk W K H (storedH xs (keyI w) b r) (addU acc w) := by
  have mem : (atKey xs (keyI w)).isSome = true ↔ w ∈ acc := by
    have e : (atKey xs (keyI w)).isSome = true ↔ keyI w ∈ xs.map (·.1) := by
      unfold atKey
      rw [Option.isSome_map, List.find?_isSome]
      simp only [decide_eq_true_eq, List.mem_map]
    rw [e, h.keys, List.mem_map]
    exact ⟨fun ⟨a, ha, q⟩ => keyI_inj q ▸ ha, fun q => ⟨w, q, rfl⟩⟩
  unfold storedH addU
  by_cases q : w ∈ acc
  · rw [if_pos q, if_pos (mem.mpr q)]
    refine ⟨by rw [keys_map_putAt]; exact h.keys, ?_, h.nd⟩
    have e : (xs.map (PySem.putAt (keyI w) r)).map (fun x => V.ref x.2.1) = xs.map fun x => V.ref x.2.1 := by
      rw [List.map_map]
      refine List.map_congr_left fun x _ => ?_
      show V.ref (PySem.putAt (keyI w) r x).2.1 = _
      unfold PySem.putAt
      split <;> rfl
    rw [e]
    exact h.rp
  · rw [if_neg q, if_neg fun z => q (mem.mp z)]
    refine ⟨by rw [List.map_append, List.map_append, h.keys]; rfl, ?_, ?_⟩
    · rw [List.map_append, List.map_append]
      exact h.rp.append (.one hb)
    · rw [List.nodup_append]
      refine ⟨h.nd, by simp, fun a ha b hb z => q ?_⟩
      rw [List.mem_singleton.mp hb] at z
      rw [← z]
      exact ha
theorem XsOk.mono {W W' : List Addr} {K : PySem.W.Frag} {H H' : Hp} (x : Ex W H W' H') {xs : List XE} {acc : List (List Int)} (h : XsOk W K H xs acc) : XsOk W' K H' xs acc := ⟨h.keys, RpL.mono x _ h.rp, h.nd⟩
@[simp] def pSortD (F : List S → Out) (vs : List Nat) (fi : FI) (bind : FG) (fk : FP) : FP := fun e => (fi e).bind fun p => (lcL bind tAll fk (wipeE e vs) p.1).bind fun ks => (iws? ks).bind fun ws =>
  if ws.length ≤ SZ ∧ okSort F ((uniq ws).map twD) = true then some (.fr (((uniq ws).map twD).mergeSort (PySem.W.dataLe false fun d => (keyF F d).py))) else none
/-- between the turns -/
structure DxAt (P : Program) (w : World) (K : PySem.W.Frag) (W' : List Addr) (H1 : Hp) (D0 : Addr) (bind : FG) (fk : FP) (e : En) (ds : List D) (ws : List (List Int)) (i : Nat) (H : Hp) (W2 : List Addr) (xs : List XE) : Prop where
  g : Grow W' H1 W2 H
  dm : D0 ∈ W2
  at_ : H D0 = some (DX P w D0 xs)
  ok : XsOk W2 K H xs (uniq (ws.take i))
  todo : lcL bind tAll fk e (ds.drop i) = some ((ws.drop i).map twD)
theorem dx_read {tg : Expr} {P : Program} {w : World} {K : PySem.W.Frag} {W W' : List Addr} {H H1 : Hp} {σ : St} {e : En} {J : It} {ds : List D} {ws : List (List Int)} {vs : List Nat} {bind : FG} {fk : FP} {Q : VK} {D0 : Addr} (sr : SR W K H σ e) (g1 : Grow W H W' H1) (hn : H1 D0 = none)
    (it : ∀ W2 H2, Grow W' H1 W2 H2 → ItAt tg W2 K H2 J ds) (hx : lcL bind tAll fk (wipeE e vs) ds = some (ws.map twD)) (hz : ws.length ≤ SZ)
    (k : ∀ W2 H2 xs, Grow W H W2 H2 → H2 D0 = some (DX P w D0 xs) → D0 ∈ W2 → XsOk W2 K H2 xs (uniq ws) → Q (.ref D0) H2) :
    ∃ Wi : Nat → Nat → Hp → Prop, (∃ m, Wi 0 m (upd H1 D0 (DX P w D0 []))) ∧ ∀ i m H, Wi i m H →
      (J.stop i H ∧ Q (.ref D0) H) ∨ (J.go i H ∧ ∃ Nx : Hp → Prop, (∀ H', Nx H' → ∃ m', m' < m ∧ Wi (i + 1) m' H') ∧ ∀ x H', J.yld i H x H' → tG tg K vs bind x (wipe σ vs) H' fun σ2 H2 => wipe σ2 vs = wipe σ vs ∧
        tP K fk σ2 H2 fun y H4 => tC (.bl true) σ2 H4 fun z H5 => ∃ xs k b, y = .ref b ∧ H5 D0 = some (DX P w D0 xs) ∧ xs.length ≤ sizeLine ∧ SqT K H5 b (k.map kV) ∧ DXk K H5 xs ∧ ∀ r, RelV z r → Nx (upd H5 D0 (DX P w D0 (storedH xs k b r)))) := by
  have hlen : ds.length = ws.length := by
    have : ∀ {ds : List D} {ks : List D} {e : En}, lcL bind tAll fk e ds = some ks → ds.length = ks.length := fun {ds} => by
      induction ds with
      | nil => intro ks e h; cases h; rfl
      | cons d ds ih =>
        intro ks e h
        obtain ⟨e1, _, h⟩ := Option.bind_eq_some_iff.mp h
        obtain ⟨b, hb, h⟩ := Option.bind_eq_some_iff.mp h
        cases hb
        obtain ⟨r, _, h⟩ := Option.bind_eq_some_iff.mp h
        obtain ⟨z, _, h⟩ := Option.bind_eq_some_iff.mp h
        obtain ⟨zs, h2, rfl⟩ := Option.map_eq_some_iff.mp h
        rw [List.length_cons, List.length_cons, ih h2]
    have q := this hx
    rw [List.length_map] at q
    exact q
  refine ⟨fun i m H => m = ds.length - i ∧ i ≤ ds.length ∧ ∃ W2 xs, DxAt P w K W' H1 D0 bind fk (wipeE e vs) ds ws i H W2 xs, ⟨ds.length, rfl, Nat.zero_le _, D0 :: W', [], ?_⟩, ?_⟩
  · refine ⟨⟨upd_keep hn, fun a h => List.mem_cons_of_mem _ h, fun a h => ?_, fun a h => ?_⟩, List.mem_cons_self, upd_same, ⟨rfl, rfl, List.nodup_nil⟩, hx⟩
    · rcases List.mem_cons.mp h with rfl | h
      · exact .inr hn
      · exact .inl h
    · rcases List.mem_cons.mp h with rfl | h
      · rw [upd_same]; trivial
      · have q := g1.wm a h
        by_cases z : a = D0
        · subst z; rw [upd_same]; trivial
        · rw [upd_ne z]; exact q
  · rintro i m H2 ⟨rfl, hi, W2, xs, L⟩
    have I2 := it W2 H2 L.g
    by_cases hlt : i < ds.length
    · refine .inr ?_
      obtain ⟨d, hd⟩ : ∃ d, ds[i]? = some d := ⟨ds[i], List.getElem?_eq_getElem hlt⟩
      obtain ⟨hgo, hy⟩ := I2.1 i d hd
      refine ⟨hgo, fun H' => ∃ W2 xs, DxAt P w K W' H1 D0 bind fk (wipeE e vs) ds ws (i + 1) H' W2 xs, fun H' q => ⟨ds.length - (i + 1), by omega, rfl, hlt, q⟩, fun x H3 y => ?_⟩
      obtain ⟨kp, rp⟩ := hy x H3 y
      have todo := L.todo
      have ed : ds.drop i = d :: ds.drop (i + 1) := by
        rw [List.drop_eq_getElem_cons hlt]
        rw [List.getElem?_eq_getElem hlt] at hd
        cases hd
        rfl
      have hlw : i < ws.length := by omega
      have ew : ws.drop i = ws[i] :: ws.drop (i + 1) := List.drop_eq_getElem_cons hlw
      rw [ed, ew] at todo
      obtain ⟨e1, he1, todo⟩ := Option.bind_eq_some_iff.mp todo
      obtain ⟨b, hb, todo⟩ := Option.bind_eq_some_iff.mp todo
      cases hb
      obtain ⟨r, hr, todo⟩ := Option.bind_eq_some_iff.mp todo
      obtain ⟨z, hz1, todo⟩ := Option.bind_eq_some_iff.mp todo
      obtain ⟨rest', hr2, erest⟩ := Option.map_eq_some_iff.mp todo
      rw [List.map_cons] at erest
      injection erest with ez erest
      subst ez erest
      have g3 : Grow W2 H2 W2 H3 := .of L.g.wm kp
      have srw : SR W2 K H3 (wipe σ vs) (wipeE e vs) := ((g1.trans L.g).trans g3).sr (sr.wipe vs)
      refine ⟨W2, wipeE e vs, d, e1, srw, rp, he1, fun σ1 sr1 l1 a1 o1 => ⟨wipe_same (l1.trans (wipe_length σ vs)) a1, ?_⟩⟩
      refine ⟨W2, e1, r, sr1, hr, fun yv W5 H5 g5 k5 => ?_⟩
      have rz := k5.item g5 g3.wm hz1
      have g50 := g5.base g3.wm
      have at5 := g5.keep _ _ (g3.keep _ _ L.at_)
      have ok5 := (L.ok.mono (g3.ex L.g.wm)).mono (g50.ex g3.wm)
      have rz2 := rz
      obtain ⟨b, us, eb, hq, hu⟩ := rz
      subst eb
      rw [rp_ints_eq hu] at hq
      refine ⟨xs, keyI ws[i], b, rfl, at5, ?_, by rw [keyI_V]; exact hq.1, ok5.dxk, fun r _ => ?_⟩
      · rw [ok5.len]
        have := uniq_len (ws.take i)
        rw [List.length_take] at this
        rw [SZ_eq]
        omega
      · have x6 : Ex W2 H5 W2 (upd H5 D0 (DX P w D0 (storedH xs (keyI ws[i]) b r))) := ⟨g50.wm, fun a o h n => ⟨by rw [upd_ne fun (q : a = D0) => n (by rw [q]; exact L.dm)]; exact h, n⟩⟩
        have g15 := (L.g.trans g3).trans g50
        refine ⟨W2, _, ⟨⟨fun a o h => by rw [upd_ne (ne_of_none h hn)]; exact g15.keep a o h, g15.sub, g15.new, fun a h => ?_⟩, L.dm, upd_same, ?_, hr2⟩⟩
        · by_cases q : a = D0
          · subst q; rw [upd_same]; trivial
          · rw [upd_ne q]; exact g15.wm a h
        · rw [List.take_succ_eq_append_getElem hlw, uniq_snoc]
          exact (ok5.put rz2).mono x6
    · have ei : i = ds.length := by omega
      subst ei
      refine .inl ⟨I2.2, ?_⟩
      have ok := L.ok
      rw [hlen, List.take_length] at ok
      exact k W2 H2 xs (g1.trans L.g) L.at_ L.dm ok
section
variable {X : Cx}
def rSortD (X : Cx) (F : List S → Out) (f : Addr) : List V → List V → Hp → VK → Prop := fun xs zs H Q => ∃ (D0 : Addr) (es : List XE) (ds : List D), xs = [.ref D0] ∧ zs = [.ref f] ∧ H D0 = some (DX X.prog X.w D0 es) ∧ (D0 == sysModules) = false ∧ es.length ≤ sizeLine ∧ RpL [] X.K H ds (es.map fun x => V.ref x.2.1) ∧ okSort F ds = true ∧
  ∀ H'' p vs', (∀ b o, H b = some o → H'' b = some o) → H'' p = none → RpL [] X.K H (ds.mergeSort (PySem.W.dataLe false fun d => (keyF F d).py)) vs' → Q (.ref p) (upd H'' p (.lst vs'))
theorem okSort_facts {F : List S → Out} {ds : List D} (ok : okSort F ds = true) : (∀ d ∈ ds, ∃ e', F [.d d] = .ok (.d (keyF F d)) e') ∧ (∀ d ∈ ds, (keyF F d).okp = true ∧ (keyF F d).py.depth ≤ 64) ∧ PySem.W.AllAlike (ds.map fun d => (keyF F d).py) ∧ PySem.W.Sortable (ds.map fun d => (keyF F d).py) := by
  unfold okSort at ok
  obtain ⟨o1, o2⟩ := Bool.and_eq_true_iff.mp ok
  have each : ∀ d ∈ ds, keyT F d = true ∧ (keyF F d).okp = true ∧ (keyF F d).py.depth ≤ 64 ∧ tupK (keyF F d).py = true := fun d hm => by
    have := List.all_eq_true.mp o1 d hm
    simp only [Bool.and_eq_true, decide_eq_true_eq] at this
    exact ⟨this.1.1.1.2, this.1.1.2, this.1.2, this.2⟩
  refine ⟨fun d hm => keyF_ok (each d hm).1, fun d hm => ⟨(each d hm).2.1, (each d hm).2.2.1⟩, fun y hy z hz => ?_, .inl fun y hy => ?_⟩
  · obtain ⟨d1, m1, rfl⟩ := List.mem_map.mp hy
    obtain ⟨d2, m2, rfl⟩ := List.mem_map.mp hz
    exact List.all_eq_true.mp (List.all_eq_true.mp o2 d1 m1) d2 m2
  · obtain ⟨d1, m1, rfl⟩ := List.mem_map.mp hy
    have t := (each d1 m1).2.2.2
    show ∃ x r, (keyF F d1).py = .tuple (x :: r)
    unfold tupK at t
    split at t
    · rename_i x r e
      exact ⟨x, r, e⟩
    · cases t
theorem vals_refs' : ∀ es : List XE, Vals (es.map fun x => V.ref x.2.1) (es.map fun x => Value.ref x.2.1)
  | [] => .nil
  | _ :: r => .cons rfl (vals_refs' r)
theorem cr_sortD {k : Nat} {f : Addr} {fd : FuncData} {ps : List Str} {F : List S → Out} (hc : X.calm = true) (FF : Fd X.prog X.w X.K X.mg X.base k f fd ps F) (hr : Room (k + 1) X.A) (hgd : X.A.guards = some []) (hp : ps.length = 1) (hb : ∀ (s : Shared) (u : Value), BindsTo s fd ⟨[u], []⟩ (ps.zip [u])) :
    CallRK X (.builtin "sorted") [Str.ofString "key"] (rSortD X F f) := by
  intro pins s σ H xs zs us ws Q I r rz h
  obtain ⟨D0, es, ds, rfl, rfl, hD, hsys, hz, hd, ok, hQ⟩ := h
  obtain rfl := Vals.ref1 r
  obtain rfl := Vals.ref1 rz
  obtain ⟨o, ens, ep, ho, hx, hdt, he⟩ := dx_of (I.hok D0 _ hD)
  have l1 : ens.size = es.length := size_of_entries he
  show wpAny _ _ (call (.builtin "sorted") [.ref D0] [(Str.ofString "key", .ref f)]) _ _ s
  refine call_function_entry_kw PyProof.Rows.kind_sorted PyProof.Rows.plain_sorted PyProof.Rows.entry_sorted (PyProof.Rows.ksk_s1 _ _) ?_
  unfold Builtin.«sorted»
  refine wpAny_bind (m := checkCount "sorted" 1 1 _) (wpAny_pure ?_)
  refine wpAny_bind (PySem.W.kdu_collect (A := X.A.in1) (kdl_raw hsys hx hdt) (I.ok.hd hc) ho (by omega) fun h' tk acc kp it => ?_)
  have ea : acc.toList = es.map fun x => Value.ref x.2.1 := by
    have hl : acc.toList.length = es.length := by rw [Array.length_toList, it.1]; exact l1
    apply List.ext_getElem?
    intro j
    rw [List.getElem?_map]
    cases hj : acc.toList[j]? with
    | none =>
      have h1 := List.getElem?_eq_none_iff.mp hj
      rw [List.getElem?_eq_none (by omega)]
      rfl
    | some v =>
      obtain ⟨en, hen, hv⟩ := it.2 j v (by rw [← Array.getElem?_toList]; exact hj)
      have qe := entry_at he j
      rw [hen] at qe
      cases hb : es[j]? with
      | none =>
        rw [hb] at qe
        exact nomatch (show some en = none from qe)
      | some b =>
        rw [hb] at qe
        have e2 : en = entryOfKey (tupleKind (mixKind X.prog X.w)) b := Option.some.inj qe
        rw [hv, e2]
        rfl
  rw [ea]
  have hle : (es.map fun x => Value.ref x.2.1).length ≤ sizeLine := by rw [List.length_map]; exact hz
  have I1 : Inv X pins σ H { s with heap := h', toks := tk } := I.kept (t' := tk) kp
  refine wpAny_bind (wpAny_newList ?_ hle)
  have hoL : (h'.push (seqObj "list" (es.map fun x => Value.ref x.2.1).toArray 0)).get? h'.objs.size = some (seqObj "list" (es.map fun x => Value.ref x.2.1).toArray 0) := Heap.get?_push_size _ rfl
  have I2 : Inv X pins σ H { s with heap := h'.push (seqObj "list" (es.map fun x => Value.ref x.2.1).toArray 0), toks := tk } := I1.kept (t' := tk) fun b o e => Heap.get?_push_of_some _ e
  have fpa : FpOk X pins H h'.objs.size := I1.fpOk (s := { s with heap := h', toks := tk }) (Nat.le_refl _) (I1.hok.fresh (Nat.le_refl _))
  obtain ⟨f1, f2, f3, f4⟩ := okSort_facts ok
  show wpAny _ _ _ _ _ { s with heap := h'.push (seqObj "list" (es.map fun x => Value.ref x.2.1).toArray 0), toks := tk }
  refine wpAny_bind (wpAny_holding (wpAny_call_entry_kw PyProof.Rows.slot_list_sort ⟨_, hoL, rfl⟩ PyProof.Rows.entry_list_sort ?body (PyProof.Rows.ksk_l1 _ _)))
  show wpAny (model X.prog X.w) X.A.in1.in1 (Builtin.«list.sort» ⟨[.ref h'.objs.size], [(Str.ofString "key", .ref f)]⟩) _ _ _
  refine wpAny_mono (sortK_at (a := h'.objs.size) FF hr hgd hp hb I2 fpa hoL (vals_refs' es) hle hd f1 f2 f3 f4 fun H'' vs' g n r => hQ H'' _ vs' g n r) (fun fn s' hf => ?_) fun _ _ e => e
  obtain ⟨rfl, hq⟩ := hf
  exact ⟨_, rfl, wpAny_pure ⟨_, rfl, hq⟩⟩
end
end DL

set_option maxHeartbeats 4000000
namespace DL
open PySem PySem.Spec PyProof.Rows L2
section
variable {X : Cx} {k : Nat} {d : He.DefD} {ps : List Str} {F : List S → Out} {fx : Str} {p pf pos kpos dpos cp : Pos} {kx tg iter : Expr} {scope : Scope} {own : List (Str × Nat)} {fi : FI} {bind : FG} {fk : FP} {ck : Nat}
theorem flat_twD : ∀ ws : List (List Int), flatL (ws.map twD) = true := fun ws => flat_all fun d hd => by
  obtain ⟨w, _, rfl⟩ := List.mem_map.mp hd
  show flatL (dints w) = true
  exact flat_all fun d hd => by
    obtain ⟨i, _, rfl⟩ := List.mem_map.mp hd
    rfl
theorem pp_sortD (c : Cal X.prog X.w X.K X.mg X.base k d ps F) (hx : d.name = fx) (hb : BindsA d ps) (hr : Room (k + 1) X.A) (hgd : X.A.guards = some []) (hm : X.mg "sorted" = none) (hc : X.calm = true) (hN : X.N.Nodup) (hu : X.A.units < cLine) (hi : IP X tg iter fi) (ok : BlkOk X.N X.env.scope scope own)
    (hgt : ∀ (s : Shared) (H : Hp) (C : Addr) (cl : List (Str × Addr)) (fp : List Addr), GP (X.blk s H scope (compEnvC scope cl C X.env) fp) tg (own.map (·.2)) bind)
    (hk : ∀ (s : Shared) (H : Hp) (C : Addr) (cl : List (Str × Addr)) (fp : List Addr), PP (X.blk s H scope (compEnvC scope cl C X.env) fp) kx fk)
    (hfs : ∀ x, foldedSetIterable iter X.env x = pure x := by intro _; rfl) (hlen : ps.length = 1 := by rfl) (hg : Gl X "sorted" := by rfl) (hgf : Gl X fx := by rfl)
    (hdd : (fx == ("__debug__" : Str)) = false := by decide) (hs : starEach [.DictComp kx (.Constant (.bool true) ck cp) [⟨tg, iter, [], 0⟩] scope dpos] X.env = (false, eval (.DictComp kx (.Constant (.bool true) ck cp) [⟨tg, iter, [], 0⟩] scope dpos) X.env) :: starEach [] X.env := by rfl)
    (he : backTo pos (starEach [.DictComp kx (.Constant (.bool true) ck cp) [⟨tg, iter, [], 0⟩] scope dpos] X.env) = (false, eval (.DictComp kx (.Constant (.bool true) ck cp) [⟨tg, iter, [], 0⟩] scope dpos) X.env) :: backTo pos (starEach [] X.env) := by rfl) (hpl : (backTo pos (starEach [.DictComp kx (.Constant (.bool true) ck cp) [⟨tg, iter, [], 0⟩] scope dpos] X.env)).any (·.1) = false := by rfl)
    (hall : (backToKw pos (keywordEach [⟨some "key", .Name fx pf, kpos⟩] X.env)).all (·.1.isSome) = true := by rfl) (hnone : (backToKw pos (keywordEach [⟨some "key", .Name fx pf, kpos⟩] X.env)).any (·.1.isNone) = false := by rfl)
    (hks : (backToKw pos (keywordEach [⟨some "key", .Name fx pf, kpos⟩] X.env)).filterMap (·.1) = [Str.ofString "key"] := by rfl) :
    PP X (.Call (.Name "sorted" p) [.DictComp kx (.Constant (.bool true) ck cp) [⟨tg, iter, [], 0⟩] scope dpos] [⟨some "key", .Name fx pf, kpos⟩] pos) (pSortD F (own.map (·.2)) fi bind fk) := by
  obtain ⟨f, fd, hmf, hkf, FF, ⟨kV, doc, pm, an, cdv, ct, efd⟩, _⟩ := c.ex
  rw [hx] at hmf
  have cr := cr_sortD (X := X) hc FF hr hgd hlen (fun s u => .of_eq (by rw [efd]; exact hb kV doc pm an cdv ct [u] (by rw [hlen]; rfl)))
  have pd := pe_dx (X := X) (kx := kx) (vx := .Constant (.bool true) ck cp) (pos := dpos) (g := tG tg X.K (own.map (·.2)) bind) (tk := tP X.K fk) (tv := tC (.bl true)) hc hN hu hi.pi ok (fun s H C cl fp => (hgt s H C cl fp).pg) (fun s H C cl fp => (hk s H C cl fp).pe) (fun s H C cl fp => pe_bl) hfs
  refine PP.of ⟨_, pe_callBK cr hg hm rfl (pa_cons pd pa_nil hs) (pk_cons (pe_glob (v := .ref f) hgf hmf rfl hdd) pk_nil) (by decide) (by decide) he hpl hall hnone hks, fun W H σ e Q r sr hf kq => ?_⟩
  obtain ⟨⟨ds, bb⟩, ei, hf⟩ := Option.bind_eq_some_iff.mp hf
  obtain ⟨ks, ek, hf⟩ := Option.bind_eq_some_iff.mp hf
  obtain ⟨ws, ew, hf⟩ := Option.bind_eq_some_iff.mp hf
  rw [iws_eq ew] at ek
  split at hf
  rotate_left
  · cases hf
  rename_i hz
  cases hf
  refine ⟨W, e, ds, bb, sr, ei, fun J W1 H1 g1 it D0 hn hsys => dx_read (P := X.prog) (w := X.w) (Q := fun x H1 => tCons (tC (V.ref f)) tNil σ H1 fun zs H2 => rSortD X F f [x] zs H2 Q) sr g1 hn (fun W2 H2 g => it W2 H2 (.inl g)) ek hz.1 fun W2 H2 xs g2 hD hW ok2 => ?_⟩
  have rp : RpL [] X.K H2 ((uniq ws).map twD) (xs.map fun x => V.ref x.2.1) := RpL.flat _ (flat_twD _) ok2.rp
  refine ⟨D0, xs, (uniq ws).map twD, rfl, rfl, hD, hsys, ?_, rp, hz.2, fun H'' p vs' g hp hr' => ?_⟩
  · rw [ok2.len, SZ_eq]
    exact Nat.le_trans (uniq_len ws) hz.1
  · have gH : ∀ b o, H b = some o → H'' b = some o := fun b o eb => g b o (g2.keep b o eb)
    have pn : H p = none := by
      cases q : H p with
      | none => rfl
      | some o => rw [gH p o q] at hp; cases hp
    have kp : ∀ b o, H b = some o → upd H'' p (.lst vs') b = some o := fun b o eb => by
      rw [upd_ne (fun z => by rw [z, pn] at eb; cases eb)]
      exact gH b o eb
    have gg : Grow W H (p :: W) (upd H'' p (.lst vs')) := ⟨kp, fun b h => List.mem_cons_of_mem _ h, fun b h => by
      rcases List.mem_cons.mp h with rfl | h
      · exact .inr pn
      · exact .inl h, fun b h => by
      rcases List.mem_cons.mp h with rfl | h
      · rw [upd_same]; trivial
      · exact (Grow.of sr.wm kp).wm b h⟩
    refine kq _ (p :: W) _ gg ⟨p, vs', rfl, pn, List.mem_cons_self, upd_same, ?_⟩
    have ex : Ex [] H2 [] (upd H'' p (.lst vs')) := ⟨fun _ h => (nomatch h), fun b o eb _ => ⟨by
      have hb := g b o eb
      rw [upd_ne (fun z => by rw [z, hp] at hb; cases hb)]
      exact hb, fun z => nomatch z⟩⟩
    exact RpL.flat _ (flat_sort hz.2 _) (RpL.mono ex _ hr')
end
end DL

set_option maxHeartbeats 4000000
namespace DL
open PySem PySem.Spec PyProof.Rows L2
/-! # sorted(xs), the items alike tuples; an expression that looks at an owned list -/
section
variable {X : Cx}
theorem each_of_valsW {W : List Addr} {K : PySem.W.Frag} {H : Hp} : ∀ {vs : List V} {its : List Value} {ds : List D}, Vals vs its → RpL W K H ds vs → PySem.W.EachIs (fun (v : Value) (d : D) => ∃ vd, RelV vd v ∧ Rp W K H d vd) its ds
  | _, _, [], r, h => by
    cases (show _ = [] from h)
    cases r
    exact .nil
  | _, _, d :: ds, r, ⟨v, vs', e, h1, h2⟩ => by
    subst e
    cases r with
    | cons r1 r2 => exact .cons ⟨v, r1, h1⟩ (each_of_valsW r2 h2)
theorem vals_of_eachW {W : List Addr} {K : PySem.W.Frag} {H : Hp} : ∀ {out : List Value} {ds : List D}, PySem.W.EachIs (fun (v : Value) (d : D) => ∃ vd, RelV vd v ∧ Rp W K H d vd) out ds → ∃ vs, Vals vs out ∧ RpL W K H ds vs
  | _, _, .nil => ⟨[], .nil, rfl⟩
  | _, _, .cons ⟨vd, r1, r2⟩ t => by
    obtain ⟨vs, h1, h2⟩ := vals_of_eachW t
    exact ⟨vd :: vs, .cons r1 h1, ⟨vd, vs, rfl, r2, h2⟩⟩
def okData (ds : List D) : Bool := (ds.all fun d => d.okp && decide (d.py.depth ≤ 64) && tupK d.py) && ds.all fun d => ds.all fun e => PySem.W.alike d.py e.py
theorem okData_facts {ds : List D} (ok : okData ds = true) : (∀ d ∈ ds, d.okp = true ∧ d.py.depth ≤ 64) ∧ PySem.W.AllAlike (ds.map D.py) ∧ PySem.W.Sortable (ds.map D.py) := by
  unfold okData at ok
  obtain ⟨o1, o2⟩ := Bool.and_eq_true_iff.mp ok
  have each : ∀ d ∈ ds, d.okp = true ∧ d.py.depth ≤ 64 ∧ tupK d.py = true := fun d hm => by
    have := List.all_eq_true.mp o1 d hm
    simp only [Bool.and_eq_true, decide_eq_true_eq] at this
    exact ⟨this.1.1, this.1.2, this.2⟩
  refine ⟨fun d hm => ⟨(each d hm).1, (each d hm).2.1⟩, fun y hy z hz => ?_, .inl fun y hy => ?_⟩
  · obtain ⟨d1, m1, rfl⟩ := List.mem_map.mp hy
    obtain ⟨d2, m2, rfl⟩ := List.mem_map.mp hz
    exact List.all_eq_true.mp (List.all_eq_true.mp o2 d1 m1) d2 m2
  · obtain ⟨d1, m1, rfl⟩ := List.mem_map.mp hy
    have t := (each d1 m1).2.2
    show ∃ x r, d1.py = .tuple (x :: r)
    unfold tupK at t
    split at t
    · rename_i x r e
      exact ⟨x, r, e⟩
    · cases t
def rSortA (K : PySem.W.Frag) : List V → Hp → VK → Prop := fun xs H Q => ∃ (W : List Addr) (ax : Addr) (vs : List V) (ds : List D), xs = [.ref ax] ∧ SqL K H ax vs ∧ RpL W K H ds vs ∧ okData ds = true ∧
  ∀ p vs', H p = none → RpL W K H (ds.mergeSort (PySem.W.dataLe false D.py)) vs' → Q (.ref p) (upd H p (.lst vs'))
theorem cr_sortA (hu : X.A.units + 70 < cLine) : CallR X (.builtin "sorted") (rSortA X.K) := by
  intro pins s σ H xs us Q I r h
  obtain ⟨W, ax, vs, ds, rfl, hax, hd, ok, hQ⟩ := h
  obtain rfl := Vals.ref1 r
  obtain ⟨its, rv, hl, hz⟩ := I.list hax
  obtain ⟨f1, f2, f3⟩ := okData_facts ok
  have ev := each_of_valsW rv hd
  have hlen : its.length = ds.length := ev.length
  have hzi : its.length ≤ sizeLine := by rw [← rv.length]; exact hz
  have er : PySem.W.EachIs (fun v d => ∃ as, Reads s.heap v (D.py d) as) its ds := by
    have : ∀ {its : List Value} {ds : List D}, PySem.W.EachIs (fun (v : Value) (d : D) => ∃ vd, RelV vd v ∧ Rp W X.K H d vd) its ds → (∀ d ∈ ds, d.okp = true) → PySem.W.EachIs (fun v d => ∃ as, Reads s.heap v (D.py d) as) its ds := fun {its ds} h => by
      induction h with
      | nil => exact fun _ => .nil
      | cons h t ih =>
        intro o
        obtain ⟨vd, r1, r2⟩ := h
        exact .cons (Dp.reads I _ _ _ (Rp.dp _ (o _ List.mem_cons_self) r2) r1) (ih fun d hd => o d (List.mem_cons_of_mem _ hd))
    exact this ev fun d hd => (f1 d hd).1
  refine PySem.W.sorted_data (enc := D.py) hl.isList ev er f2 f3 (by omega) (fun d hd => by have := (f1 d hd).2; omega) fun out ol ho => ?_
  obtain ⟨vs', hv', hr'⟩ := vals_of_eachW ho
  have le : s.heap.objs.size ≤ s.heap.objs.size + 1 := Nat.le_succ _
  obtain ⟨e', he'⟩ := PyProof.Rows.sortedHeap_at (h := PySem.W.copyHeap s.heap its) (a := s.heap.objs.size + 1) (vs := its) (out := out.toArray) (PySem.W.copyHeap_at s.heap its)
  refine ⟨.ref (s.heap.objs.size + 1), _, I.laid (t' := s.toks) (o := .lst vs') (fun b o e => ?_) le (show ObjOk X.prog X.w _ _ _ (.lst vs') from ⟨by rw [hv'.length, ol, ← hlen]; exact hzi, out, e', hv', he'⟩), rfl, hQ _ vs' (I.hok.fresh le) hr'⟩
  have hb : b < s.heap.objs.size := Heap.lt_size e
  have c : (PySem.W.copyHeap s.heap its).get? b = some o := PySem.W.copyHeap_old e
  show (PyProof.Rows.sortedHeap (PySem.W.copyHeap s.heap its) (s.heap.objs.size + 1) its out.toArray).get? b = some o
  rw [PyProof.Rows.sortedHeap_old (Nat.ne_of_lt (Nat.lt_succ_of_lt hb)) (Heap.lt_size c)]
  exact c
theorem u70 (h : X.A.units + 110 < cLine) : X.A.units + 70 < cLine := by omega
theorem u0 (h : X.A.units + 110 < cLine) : X.A.units < cLine := by omega
def gSorted : List D → Option RV
  | [.lst ds] => if okData ds = true then some (.fr (ds.mergeSort (PySem.W.dataLe false D.py))) else none
  | _ => none
theorem c_sorted (hu : X.A.units + 70 < cLine) : Ca X (.builtin "sorted") gSorted := by
  refine ⟨_, cr_sortA hu, fun W H xs ds r Q wm hx hg k => ?_⟩
  unfold gSorted at hg
  split at hg
  · split at hg
    · rename_i ok
      cases hg
      obtain ⟨v, rfl, a, vs, rfl, h1, r1⟩ := hx.one
      exact ⟨W, a, vs, _, rfl, .of h1, r1, ok, fun p vs' hn hr => k.fr wm hr p hn⟩
    · cases hg
  · cases hg
@[simp] def sclr : RV → Option RV
  | .fz (.str z) => some (.fz (.str z))
  | .fz (.bl b) => some (.fz (.bl b))
  | .fz (.int i) => some (.fz (.int i))
  | _ => none
@[simp] def pView (i : Nat) (f : FP) : FP := fun e => (f (frz i e)).bind sclr
theorem pp_view {ex : Expr} {f : FP} (i : Nat) (h : PP X ex f) : PP X ex (pView i f) := by
  obtain ⟨t, p, k⟩ := h.run
  refine PP.of ⟨t, p, fun W H σ e Q r sr hf kq => ?_⟩
  obtain ⟨r1, e1, hy⟩ := Option.bind_eq_some_iff.mp hf
  obtain ⟨W', sr', x⟩ := frz_sr i sr
  refine k W' H σ (frz i e) Q r1 sr' e1 fun v W2 H2 g2 k2 => ?_
  have g : Grow W H W H2 := .of sr.wm g2.keep
  unfold sclr at hy
  split at hy
  · cases hy; exact kq v W H2 g k2
  · cases hy; exact kq v W H2 g k2
  · cases hy; exact kq v W H2 g k2
  · cases hy
end
end DL

set_option maxHeartbeats 4000000
namespace DL
open PySem PySem.Spec PyProof.Rows L2
/-! # a, b = x, y by a new tuple, one of them a new list -/
section
variable {X : Cx} {Wx : WX} {lk : List Nat} {a b : Expr} {pos : Pos}
theorem sd_parU (i j : Nat) {x y : Str} {px py pt : Pos} {kt k2 : Nat} {pt2 : Pos} {fs : FAR} (hc : X.calm = true) (ha : ARJ X Wx [a, b] fs) (hN : X.N.Nodup)
    (hw : swappedStores [.Tuple [.Name x px, .Name y py] kt pt] (.Tuple [a, b] k2 pt2) X.env = pure none := by rfl)
    (hli : i ∉ lk := by decide) (hlj : j ∉ lk := by decide) (hi : X.N[i]? = some x := by rfl) (hj : X.N[j]? = some y := by rfl)
    (hx : Loc X.env.scope x := by first | exact Or.inl rfl | exact Or.inr rfl) (hy : Loc X.env.scope y := by first | exact Or.inl rfl | exact Or.inr rfl)
    (hfx : X.fn x = true ∨ X.env.scope.names.lookup x = some .local := by first | exact .inl rfl | exact .inr rfl | assumption) (hfy : X.fn y = true ∨ X.env.scope.names.lookup y = some .local := by first | exact .inl rfl | exact .inr rfl | assumption)
    (hs : swapsWithSole [.Tuple [.Name x px, .Name y py] kt pt] (.Tuple [a, b] k2 pt2) pos.line X.env = pure false := by rfl) (h1 : (assignEach [.Tuple [.Name x px, .Name y py] kt pt] X.env).map (·.2) = [assign (.Tuple [.Name x px, .Name y py] kt pt) X.env] := by rfl)
    (hn : (assignEach [.Name x px, .Name y py] X.env).length = 2 := by rfl) (hst : (assignEach [.Name x px, .Name y py] X.env).findIdx? (·.1) = none := by rfl)
    (hs1 : (assignEach [.Name x px, .Name y py] X.env).map (·.2) = assign (.Name x px) X.env :: (assignEach [.Name y py] X.env).map (·.2) := by rfl) (hs2 : (assignEach [.Name y py] X.env).map (·.2) = assign (.Name y py) X.env :: (assignEach [] X.env).map (·.2) := by rfl) :
    SD X Wx lk (.Assign [.Tuple [.Name x px, .Name y py] kt pt] (.Tuple [a, b] k2 pt2) pos) (sPar i j fs) := by
  obtain ⟨t, p, k⟩ := ha.run
  refine SD.of ⟨_, ps_asg (pe_tupN p) (pg_tup hc (pgs_cons (pg_name hN hi hx hfx) (pgs_cons (pg_name hN hj hy hfy) pgs_nil hs2) hs1) hn hst) hs hw h1, fun W H σ e D sr h => k W H σ e _ sr ?_⟩
  unfold sPar at h
  revert h
  generalize fs e = o
  intro h
  cases o with
  | stuck => exact h
  | ex z e1 => exact fun c d W' H' sr' x' r => h c d W' H' σ sr' x' (fun _ _ => rfl) r
  | ok as e1 =>
    intro vs W1 H1 sr1 x1 ar
    have h : FlK X.K X.mg Wx lk W H σ e D (put2 i j as e1) := h
    rcases put2_ok i j as e1 with q | ⟨r, s, u, w, rfl, hu, hv, hz, q⟩
    · rw [q] at h
      exact h.elim
    rw [q] at h
    obtain ⟨v, us, rfl, ar1, v', us', rfl, ar2, en⟩ := ar
    cases (show us' = [] from en)
    obtain ⟨r1, f1⟩ := ar1.rs hu
    obtain ⟨r2, f2⟩ := ar2.rs hv
    refine ⟨by show 2 ≤ sizeLine; decide, fun p o hd hp => ?_⟩
    have g : Grow W1 H1 W1 (upd H1 p (.frz o (.tup [v, v']))) := .tup sr1.wm hp
    replace x1 := x1.trans (g.fx sr1)
    replace r1 := g.rs sr1.wm r1
    replace r2 := g.rs sr1.wm r2
    replace sr1 := g.sr sr1
    obtain ⟨s2, x2⟩ := store_own sr.wm sr1 x1 r1 f1 hz.2.1
    have f2' : w.own = true → ∀ a, v' = .ref a → H a = none ∧ ¬ Ow (σ.set i (some v)) (e1.set i (some u)) a := by
      intro wo a ea
      refine ⟨(f2 wo a ea).1, ?_⟩
      cases u with
      | d y => exact fun z => (f2 wo a ea).2 (z.setD hz.2.1)
      | lst ys =>
        exfalso
        cases r with
        | fz x => cases hu
        | bw k => cases hu
        | ow zs =>
          cases s with
          | fz x => cases hv; cases wo
          | bw k => cases hv
          | ow qs => exact absurd hz.1 (by show ¬ (0 + 1 + 1 ≤ 1); omega)
    obtain ⟨s3, x3⟩ := store_own (i := j) sr.wm s2 x2 r2 f2' (by rw [List.length_set]; exact hz.2.2)
    refine ⟨p, [v, v'], rfl, .inl (.inr ⟨o, upd_same⟩), rfl, v, [v'], rfl, v', [], rfl, rfl, h W1 _ _ s3 x3 fun l hl => ?_⟩
    rw [List.getElem?_set_ne fun (z : j = l) => hlj (by rw [z]; exact hl), List.getElem?_set_ne fun (z : i = l) => hli (by rw [z]; exact hl)]
end
end DL

set_option maxHeartbeats 4000000
namespace DL
open PySem PySem.Spec PyProof.Rows L2

/-! # Plain lemmas about data -/
mutual
/-- small enough to be shown and told apart -/
def D.nice : D → Bool
  | .non => true
  | .bl _ => true
  | .int i => decide (i.natAbs.log2 < 1900)
  | .str x => x.cps.toList.all fun c => decide (c < 1114112)
  | .tup xs => niceL xs
  | .lst xs => niceL xs
  | .ro xs => niceL xs
  | .dic _ _ => false
def niceL : List D → Bool
  | [] => true
  | d :: ds => d.nice && niceL ds
end
mutual
def D.size : D → Nat
  | .str x => x.length
  | .tup xs => sizeL xs
  | .lst xs => sizeL xs
  | .ro xs => sizeL xs
  | .dic _ _ => 0
  | .non => 0
  | .bl _ => 0
  | .int _ => 0
def sizeL : List D → Nat
  | [] => 0
  | d :: ds => d.size + 1 + sizeL ds
end
mutual
def D.dep : D → Nat
  | .tup xs => depL xs + 1
  | .lst xs => depL xs + 1
  | .ro xs => depL xs + 1
  | .str _ => 0
  | .dic _ _ => 0
  | .non => 0
  | .bl _ => 0
  | .int _ => 0
def depL : List D → Nat
  | [] => 0
  | d :: ds => max d.dep (depL ds)
end
mutual
theorem D.nice_okp : ∀ d : D, d.nice = true → d.okp = true
  | .non, _ => rfl
  | .bl _, _ => rfl
  | .int _, _ => rfl
  | .str _, _ => rfl
  | .tup xs, h => niceL_okp xs h
  | .lst xs, h => niceL_okp xs h
  | .ro xs, h => niceL_okp xs h
theorem niceL_okp : ∀ ds : List D, niceL ds = true → okpL ds = true
  | [], _ => rfl
  | d :: ds, h => by
    obtain ⟨a, b⟩ := Bool.and_eq_true_iff.mp (show (d.nice && niceL ds) = true from h)
    show (d.okp && okpL ds) = true
    rw [D.nice_okp d a, niceL_okp ds b]
    rfl
end
mutual
theorem D.nice_lay : ∀ d : D, d.nice = true → d.py.canLay0 = true
  | .non, _ => by simp only [D.py, PyData.canLay0]
  | .bl _, _ => by simp only [D.py, PyData.canLay0]
  | .int _, _ => by simp only [D.py, PyData.canLay0]
  | .str x, h => by
    have h : (x.cps.toList.all fun c => decide (c < 1114112)) = true := h
    simp only [D.py, PyData.canLay0, PyData.strOk]
    rw [← Array.all_toList]
    exact h
  | .tup xs, h => by simp only [D.py, PyData.canLay0]; exact niceL_lay xs h
  | .lst xs, h => by simp only [D.py, PyData.canLay0]; exact niceL_lay xs h
  | .ro xs, h => by simp only [D.py, PyData.canLay0]; exact niceL_lay xs h
theorem niceL_lay : ∀ ds : List D, niceL ds = true → PyData.canLayAll0 (pyL ds) = true
  | [], _ => by simp only [pyL, PyData.canLayAll0]
  | d :: ds, h => by
    obtain ⟨a, b⟩ := Bool.and_eq_true_iff.mp (show (d.nice && niceL ds) = true from h)
    simp only [pyL, PyData.canLayAll0, D.nice_lay d a, niceL_lay ds b, Bool.and_self]
end
mutual
theorem D.py_depth : ∀ d : D, d.nice = true → d.py.depth = d.dep
  | .non, _ => by simp only [D.py, PyData.depth, D.dep]
  | .bl _, _ => by simp only [D.py, PyData.depth, D.dep]
  | .int _, _ => by simp only [D.py, PyData.depth, D.dep]
  | .str _, _ => by simp only [D.py, PyData.depth, D.dep]
  | .tup xs, h => by simp only [D.py, PyData.depth, D.dep, pyL_depth xs h]
  | .lst xs, h => by simp only [D.py, PyData.depth, D.dep, pyL_depth xs h]
  | .ro xs, h => by simp only [D.py, PyData.depth, D.dep, pyL_depth xs h]
theorem pyL_depth : ∀ ds : List D, niceL ds = true → PyData.depthAll (pyL ds) = depL ds
  | [], _ => by simp only [pyL, PyData.depthAll, depL]
  | d :: ds, h => by
    obtain ⟨a, b⟩ := Bool.and_eq_true_iff.mp (show (d.nice && niceL ds) = true from h)
    simp only [pyL, PyData.depthAll, depL, D.py_depth d a, pyL_depth ds b]
end
mutual
theorem D.py_bulk : ∀ d : D, d.nice = true → d.py.bulk = d.size
  | .non, _ => by simp only [D.py, PyData.bulk, D.size]
  | .bl _, _ => by simp only [D.py, PyData.bulk, D.size]
  | .int _, _ => by simp only [D.py, PyData.bulk, D.size]
  | .str _, _ => by simp only [D.py, PyData.bulk, D.size]; rfl
  | .tup xs, h => by simp only [D.py, PyData.bulk, D.size, pyL_bulk xs h]
  | .lst xs, h => by simp only [D.py, PyData.bulk, D.size, pyL_bulk xs h]
  | .ro xs, h => by simp only [D.py, PyData.bulk, D.size, pyL_bulk xs h]
theorem pyL_bulk : ∀ ds : List D, niceL ds = true → PyData.bulkAll (pyL ds) = sizeL ds
  | [], _ => by simp only [pyL, PyData.bulkAll, sizeL]
  | d :: ds, h => by
    obtain ⟨a, b⟩ := Bool.and_eq_true_iff.mp (show (d.nice && niceL ds) = true from h)
    simp only [pyL, PyData.bulkAll, sizeL, D.py_bulk d a, pyL_bulk ds b]
end
mutual
theorem D.nice_shows : ∀ d : D, d.nice = true → d.py.showable = true ∧ d.py.leavesShort 1902 = true
  | .non, _ => by simp only [D.py, PyData.showable, PyData.leavesShort, and_self]
  | .bl _, _ => by simp only [D.py, PyData.showable, PyData.leavesShort, and_self]
  | .int i, h => by
    have h : i.natAbs.log2 < 1900 := of_decide_eq_true h
    simp only [D.py, PyData.showable, PyData.leavesShort, decide_eq_true_eq]
    refine ⟨by omega, ?_⟩
    have := int_text_length_le (a := i) (k := 1900) (by decide) h
    show (Str.ofString (toString i)).length ≤ 1902
    exact Nat.le_trans (Nat.le_of_eq (PySem.ofString_length _)) (Nat.le_trans this (by decide))
  | .str x, h => by
    have h : (x.cps.toList.all fun c => decide (c < 1114112)) = true := h
    simp only [D.py, PyData.showable, PyData.leavesShort, true_and]
    rw [List.all_eq_true] at h ⊢
    intro c hc
    have := of_decide_eq_true (h c hc)
    exact decide_eq_true (by omega)
  | .tup xs, h => by simp only [D.py, PyData.showable, PyData.leavesShort]; exact niceL_shows xs h
  | .lst xs, h => by simp only [D.py, PyData.showable, PyData.leavesShort]; exact niceL_shows xs h
  | .ro xs, h => by simp only [D.py, PyData.showable, PyData.leavesShort]; exact niceL_shows xs h
theorem niceL_shows : ∀ ds : List D, niceL ds = true → PyData.showableAll (pyL ds) = true ∧ PyData.leavesShortAll 1902 (pyL ds) = true
  | [], _ => by simp only [pyL, PyData.showableAll, PyData.leavesShortAll, and_self]
  | d :: ds, h => by
    obtain ⟨a, b⟩ := Bool.and_eq_true_iff.mp (show (d.nice && niceL ds) = true from h)
    simp only [pyL, PyData.showableAll, PyData.leavesShortAll, (D.nice_shows d a).1, (D.nice_shows d a).2, (niceL_shows ds b).1, (niceL_shows ds b).2, Bool.and_self, and_self]
end
theorem eqok_nice {d : D} (h : d.nice = true) (hd : d.dep ≤ 64) : eqok d = true := by
  unfold eqok SeqAt.shaped
  rw [D.nice_okp d h, D.nice_lay d h, D.py_depth d h, decide_eq_true hd]
  rfl
theorem shown_short {d : D} (h : d.nice = true) (hs : d.size ≤ 8000) : d.py.shown.length ≤ SZ := by
  have := PyData.shown_le_bulk 1902 (by decide) d.py (D.nice_shows d h).2
  rw [D.py_bulk d h] at this
  unfold SZ
  omega
theorem repr_lst {xs : List D} (h : niceL xs = true) (hd : depL xs ≤ 60) (hs : sizeL xs ≤ 8000) : gRepr [.lst xs] = some (.fz (.str (D.lst xs).py.shown)) :=
  if_pos ⟨niceL_okp xs h, (D.nice_shows (.lst xs) h).1, by rw [D.py_depth (.lst xs) h]; show depL xs + 1 ≤ 100; omega, shown_short (d := .lst xs) h hs⟩
theorem repr_tup {xs : List D} (h : niceL xs = true) (hd : depL xs ≤ 60) (hs : sizeL xs ≤ 8000) : gRepr [.tup xs] = some (.fz (.str (D.tup xs).py.shown)) :=
  if_pos ⟨niceL_okp xs h, (D.nice_shows (.tup xs) h).1, by rw [D.py_depth (.tup xs) h]; show depL xs + 1 ≤ 100; omega, shown_short (d := .tup xs) h hs⟩
/-! ### equality -/
theorem gEq_nice {x y : D} (hx : x.nice = true) (hy : y.nice = true) (dx : x.dep ≤ 64) (dy : y.dep ≤ 64) : gEq x y = some (.fz (.bl (eqb x y))) := if_pos ⟨eqok_nice hx dx, eqok_nice hy dy⟩
theorem gNe_nice {x y : D} (hx : x.nice = true) (hy : y.nice = true) (dx : x.dep ≤ 64) (dy : y.dep ≤ 64) : gNe x y = some (.fz (.bl (!eqb x y))) := if_pos ⟨eqok_nice hx dx, eqok_nice hy dy⟩
theorem eqb_refl {x : D} (h : x.nice = true) : eqb x x = true := PySem.SeqAt.eqv_refl x.py (D.nice_lay x h)
theorem eqb_int (i j : Int) : eqb (.int i) (.int j) = decide (i = j) := by
  unfold eqb
  simp only [D.py, PyData.eqv]
  rw [Bool.eq_iff_iff]
  simp
theorem eqb_str (x y : Str) : eqb (.str x) (.str y) = decide (x = y) := by
  unfold eqb
  simp only [D.py, PyData.eqv]
  rw [Bool.eq_iff_iff]
  simp
theorem eqvAll_dints : ∀ v w : List Int, PyData.eqvAll (pyL (dints v)) (pyL (dints w)) = decide (v = w)
  | [], [] => by simp [dints, pyL, PyData.eqvAll]
  | [], _ :: _ => by simp [dints, pyL, PyData.eqvAll]
  | _ :: _, [] => by simp [dints, pyL, PyData.eqvAll]
  | a :: v, b :: w => by
    have ih := eqvAll_dints v w
    show (PyData.eqv (.int a) (.int b) && PyData.eqvAll (pyL (dints v)) (pyL (dints w))) = _
    rw [ih, Bool.eq_iff_iff]
    simp [PyData.eqv]
theorem eqb_tupI (v w : List Int) : eqb (.tup (dints v)) (.tup (dints w)) = decide (v = w) := by
  unfold eqb
  simp only [D.py, PyData.eqv]
  exact eqvAll_dints v w
theorem eqb_lstI (v w : List Int) : eqb (.lst (dints v)) (.lst (dints w)) = decide (v = w) := by
  unfold eqb
  simp only [D.py, PyData.eqv]
  exact eqvAll_dints v w
/-! ### steps of mirrors -/
theorem pAnd_t {fa fb : FP} {e : En} (h : fa e = some (.fz (.bl true))) : pAnd fa fb e = fb e := by unfold pAnd; rw [h]; rfl
theorem pAnd_f {fa fb : FP} {e : En} (h : fa e = some (.fz (.bl false))) : pAnd fa fb e = some (.fz (.bl false)) := by unfold pAnd; rw [h]; rfl
theorem ret_fz {f : FP} {e : En} {x : D} (h : f e = some (.fz x)) : sRet (mPP f) e = .rt (.d x) e := by unfold sRet mPP; rw [h]; rfl
theorem ret_fr {f : FP} {e : En} {xs : List D} (h : f e = some (.fr xs)) : sRet (mPP f) e = .rt (.lst xs) e := by unfold sRet mPP; rw [h]; rfl
theorem set_fz {f : FP} {e : En} {x : D} {i : Nat} (h : f e = some (.fz x)) (hi : i < e.length) : sSet i (mPP f) e = .nx (e.set i (some (.d x))) := by unfold sSet mPP; rw [h]; exact if_pos hi
theorem set_fr {f : FP} {e : En} {xs : List D} {i : Nat} (h : f e = some (.fr xs)) (hi : i < e.length) : sSet i (mPP f) e = .nx (e.set i (some (.d (.lst xs)))) := by unfold sSet mPP; rw [h]; exact if_pos hi
theorem seq_nx {f g : FS} {e e1 : En} (h : f e = .nx e1) : sSeq f g e = g e1 := by unfold sSeq; rw [h]; rfl
theorem seq_rt {f g : FS} {e e1 : En} {s : S} (h : f e = .rt s e1) : sSeq f g e = .rt s e1 := by unfold sSeq; rw [h]; rfl
theorem seq_ex {f g : FS} {e e1 : En} {x : XD} (h : f e = .ex x e1) : sSeq f g e = .ex x e1 := by unfold sSeq; rw [h]; rfl
theorem if_t {ft : FT} {f g : FS} {e : En} (h : ft e = some true) : sIf (tMT ft) f g e = f e := by unfold sIf tMT; rw [h]; rfl
theorem if_f {ft : FT} {f g : FS} {e : En} (h : ft e = some false) : sIf (tMT ft) f g e = g e := by unfold sIf tMT; rw [h]; rfl
theorem pIf_t {ft : FT} {f g : FP} {e : En} (h : ft e = some true) : pIf ft f g e = f e := by unfold pIf; rw [h]; rfl
theorem pIf_f {ft : FT} {f g : FP} {e : En} (h : ft e = some false) : pIf ft f g e = g e := by unfold pIf; rw [h]; rfl
theorem tVal_ok {f : FP} {e : En} {b : Bool} (h : f e = some (.fz (.bl b))) : tVal f e = some b := by unfold tVal; rw [h]; rfl
theorem aCons_ok {fa : FP} {fs : FA} {e : En} {r : RV} {rs : List RV} (h : fa e = some r) (h2 : fs e = some rs) : aCons fa fs e = some (r :: rs) := by unfold aCons; rw [h, h2]; rfl
theorem pCa_ok {g : List D → Option RV} {fs : FA} {e : En} {rs : List RV} (h : fs e = some rs) : pCa g fs e = g (rs.map RV.view) := by unfold pCa; rw [h]; rfl
theorem p2_ok {g : D → D → Option RV} {fa fb : FP} {e : En} {a b : RV} (h : fa e = some a) (h2 : fb e = some b) : p2 g fa fb e = g a.view b.view := by unfold p2; rw [h, h2]; rfl
theorem pFd_ok {F : List S → Out} {fs : FA} {e : En} {rs : List RV} (h : fs e = some rs) : pFd F fs e = callP F rs := by unfold pFd; rw [h]; rfl
theorem callP_fz {F : List S → Out} {rs : List RV} {x : D} {e : En} (h : F (rs.map fun r => .d r.view) = .ok (.d x) e) (c : (rs.all fun r => !r.lent) = true ∨ x.flat = true) : callP F rs = some (.fz x) := by
  unfold callP
  rw [h]
  exact if_pos c
theorem callP_fr {F : List S → Out} {rs : List RV} {xs : List D} {e : En} (h : F (rs.map fun r => .d r.view) = .ok (.lst xs) e) (c : (rs.all fun r => !r.lent) = true) : callP F rs = some (.fr xs) := by
  unfold callP
  rw [h]
  exact if_pos (.inl c)
theorem pLc_ok {vs : List Nat} {fi : FI} {bind : FG} {ft : FT} {fe : FP} {e : En} {ds xs : List D} {b : Bool} (h : fi e = some (ds, b)) (h2 : lcL bind ft fe (wipeE e vs) ds = some xs) (hz : xs.length ≤ SZ) : pLc vs fi bind ft fe e = some (.fr xs) := by
  unfold pLc
  rw [h, Option.bind_some, h2, Option.bind_some]
  exact if_pos hz
/-! ### whole numbers -/
theorem nice_int {i : Int} (h : i.natAbs < 2 ^ 64) : (D.int i).nice = true := decide_eq_true (by
  by_cases z : i.natAbs = 0
  · rw [z]; decide
  · exact Nat.lt_of_lt_of_le ((Nat.log2_lt z).mpr h) (by decide))
theorem nice_dints : ∀ {v : List Int}, (∀ i ∈ v, i.natAbs < 2 ^ 64) → niceL (dints v) = true
  | [], _ => rfl
  | i :: v, h => by
    show ((D.int i).nice && niceL (dints v)) = true
    rw [nice_int (h i List.mem_cons_self), nice_dints fun j hj => h j (List.mem_cons_of_mem _ hj)]
    rfl
theorem size_dints : ∀ v : List Int, sizeL (dints v) = v.length
  | [] => rfl
  | i :: v => by
    show 0 + 1 + sizeL (dints v) = _
    rw [size_dints v, List.length_cons]
    omega
theorem dep_dints : ∀ v : List Int, depL (dints v) = 0
  | [] => rfl
  | i :: v => by
    show max 0 (depL (dints v)) = 0
    rw [dep_dints v]
    rfl
@[simp] theorem dints_length (v : List Int) : (dints v).length = v.length := List.length_map ..
@[simp] theorem dints_nil : dints [] = [] := rfl
@[simp] theorem dints_cons (i : Int) (v : List Int) : dints (i :: v) = .int i :: dints v := rfl
theorem dints_append (v w : List Int) : dints (v ++ w) = dints v ++ dints w := List.map_append ..
theorem atI_map {α β : Type} (f : α → β) (xs : List α) (i : Int) : atI (xs.map f) i = (atI xs i).map f := by
  unfold atI
  rw [List.length_map]
  cases ixN xs.length i with
  | none => rfl
  | some j => simp
end DL

set_option maxHeartbeats 4000000
namespace DL
open PySem PySem.Spec PyProof.Rows L2
/-! # What is shown is a string of the language -/
def good (z : Str) : Prop := ∀ c ∈ z.cps.toList, c < 1114112
theorem char_lt (c : Char) : c.toNat < 1114112 := by
  have h : c.val.toNat < 0xd800 ∨ (0xdfff < c.val.toNat ∧ c.val.toNat < 0x110000) := c.valid
  have e : c.toNat = c.val.toNat := rfl
  omega
theorem good_of (s : String) : good (Str.ofString s) := by
  rw [Str.ofString_eq_toList]
  intro c hc
  obtain ⟨d, _, rfl⟩ := List.mem_map.mp (show c ∈ s.toList.map Char.toNat from hc)
  exact char_lt d
theorem good_add {x y : Str} (h : good x) (h2 : good y) : good (x ++ y) := by
  obtain ⟨x⟩ := x
  obtain ⟨y⟩ := y
  intro c hc
  have : c ∈ (x ++ y).toList := hc
  rw [Array.toList_append] at this
  rcases List.mem_append.mp this with q | q
  · exact h c q
  · exact h2 c q
theorem good_join {s : Str} (hs : good s) : ∀ {xs : List Str}, (∀ x ∈ xs, good x) → good (Str.join s xs)
  | [], _ => fun c hc => absurd hc (by show ¬ c ∈ ([] : List Nat); simp)
  | [x], h => h x List.mem_cons_self
  | x :: y :: xs, h => by
    show good (x ++ s ++ Str.join s (y :: xs))
    exact good_add (good_add (h x List.mem_cons_self) hs) (good_join hs fun z hz => h z (List.mem_cons_of_mem _ hz))
theorem good_char {q c : Nat} (hq : q < 1114112) (hc : c < 1114112) : ∀ d ∈ Builtin.Str.reprChar q c, d < 1114112 := by
  have hx : ∀ (w : Nat) d, d ∈ List.replicate (w - ((Nat.toDigits 16 c).map Char.toNat).length) 48 ++ (Nat.toDigits 16 c).map Char.toNat → d < 1114112 := fun w d hd => by
    rcases List.mem_append.mp hd with q | q
    · rw [(List.mem_replicate.mp q).2]; decide
    · obtain ⟨e, _, rfl⟩ := List.mem_map.mp q
      exact char_lt e
  intro d hd
  unfold Builtin.Str.reprChar at hd
  dsimp only at hd
  repeat' split at hd
  all_goals first
    | (simp only [List.mem_cons, List.not_mem_nil, or_false] at hd; omega)
    | (rcases List.mem_append.mp hd with z | z
       · simp only [List.mem_cons, List.not_mem_nil, or_false] at z; omega
       · exact hx _ _ z)
theorem good_fold {q : Nat} (hq : q < 1114112) : ∀ (l : List Nat) (acc : Array Nat), (∀ c ∈ l, c < 1114112) → (∀ c ∈ acc.toList, c < 1114112) → ∀ c ∈ (l.foldl (fun out c => out ++ (Builtin.Str.reprChar q c).toArray) acc).toList, c < 1114112
  | [], _, _, h => h
  | x :: l, acc, hl, h => by
    refine good_fold hq l _ (fun c hc => hl c (List.mem_cons_of_mem _ hc)) fun c hc => ?_
    rw [Array.toList_append] at hc
    rcases List.mem_append.mp hc with z | z
    · exact h c z
    · exact good_char hq (hl x List.mem_cons_self) c z
theorem good_repr {x : Str} (h : good x) : good (reprText x) := by
  have hq : reprQuote x < 1114112 := by unfold reprQuote; split <;> decide
  intro c hc
  unfold reprText at hc
  rw [Array.toList_push, ← Array.foldl_toList] at hc
  rcases List.mem_append.mp hc with z | z
  · exact good_fold hq _ _ h (fun d hd => by have : d = reprQuote x := by simpa using hd
                                             rw [this]; exact hq) c z
  · rw [List.mem_singleton.mp z]; exact hq
mutual
theorem good_shown : ∀ d : D, d.nice = true → good d.py.shown
  | .non, _ => by simp only [D.py, PyData.shown_none]; exact good_of _
  | .bl b, _ => by
    simp only [D.py, PyData.shown_bool]
    cases b <;> exact good_of _
  | .int i, _ => by simp only [D.py, PyData.shown_int]; exact good_of _
  | .str x, h => by
    simp only [D.py, PyData.shown_str]
    exact good_repr fun c hc => of_decide_eq_true (List.all_eq_true.mp (show (x.cps.toList.all fun c => decide (c < 1114112)) = true from h) c hc)
  | .tup xs, h => by
    simp only [D.py, PyData.shown_tuple]
    exact good_add (good_add (good_of _) (good_join (good_of _) (good_shownL xs h))) (good_of _)
  | .lst xs, h => by
    simp only [D.py, PyData.shown_list]
    exact good_add (good_add (good_of _) (good_join (good_of _) (good_shownL xs h))) (good_of _)
  | .ro xs, h => by
    simp only [D.py, PyData.shown_list]
    exact good_add (good_add (good_of _) (good_join (good_of _) (good_shownL xs h))) (good_of _)
theorem good_shownL : ∀ ds : List D, niceL ds = true → ∀ x ∈ PyData.shownAll (pyL ds), good x
  | [], _ => fun x hx => absurd hx (by simp only [pyL, PyData.shownAll_nil]; simp)
  | d :: ds, h => by
    obtain ⟨a, b⟩ := Bool.and_eq_true_iff.mp (show (d.nice && niceL ds) = true from h)
    intro x hx
    simp only [pyL, PyData.shownAll_cons] at hx
    rcases List.mem_cons.mp hx with rfl | q
    · exact good_shown d a
    · exact good_shownL ds b x q
end
theorem good.nice {z : Str} (h : good z) : (D.str z).nice = true := by
  show (z.cps.toList.all fun c => decide (c < 1114112)) = true
  rw [List.all_eq_true]
  exact fun c hc => decide_eq_true (h c hc)
/-- two shown alike are told equal -/
theorem shown_ne_same {x : D} (h : x.nice = true) : gNe (.str x.py.shown) (.str x.py.shown) = some (.fz (.bl false)) := by
  have n := (good_shown x h).nice
  rw [gNe_nice n n (Nat.zero_le _) (Nat.zero_le _), eqb_refl n]
  rfl
end DL

set_option maxHeartbeats 4000000
namespace FG
/-! # Words with undoings: plain laws of free reduction -/
/-- no neighbours undo one another -/
def Red : List Int → Prop
  | [] => True
  | [_] => True
  | a :: b :: w => a + b ≠ 0 ∧ Red (b :: w)
/-- the reversed stack: its head is the last letter -/
def push (s : List Int) (a : Int) : List Int := match s with
  | [] => [a]
  | b :: r => if b + a = 0 then r else a :: b :: r
def stk (w : List Int) (s : List Int) : List Int := w.foldl push s
def red (w : List Int) : List Int := (stk w []).reverse
def inv (w : List Int) : List Int := (w.map fun a => -a).reverse
theorem Red.tail {a : Int} {w : List Int} (h : Red (a :: w)) : Red w := by
  cases w with
  | nil => trivial
  | cons b w => exact h.2
theorem push_eq (b : Int) (r : List Int) (a : Int) : push (b :: r) a = if b + a = 0 then r else a :: b :: r := rfl
theorem push_red {s : List Int} (h : Red s) (a : Int) : Red (push s a) := by
  cases s with
  | nil => trivial
  | cons b r =>
    rw [push_eq]
    by_cases q : b + a = 0
    · rw [if_pos q]; exact h.tail
    · rw [if_neg q]; exact ⟨fun w => q (by omega), h⟩
theorem push_back {s : List Int} (h : Red s) (a : Int) : push (push s a) (-a) = s := by
  cases s with
  | nil =>
    show push [a] (-a) = []
    rw [push_eq, if_pos (by omega)]
  | cons b r =>
    by_cases q : b + a = 0
    · have e : push (b :: r) a = r := by simp [push, q]
      rw [e]
      have : -a = b := by omega
      rw [this]
      cases r with
      | nil => rfl
      | cons c t =>
        have := h.1
        simp only [push]
        rw [if_neg (by omega)]
    · have e : push (b :: r) a = a :: b :: r := by simp [push, q]
      rw [e]
      simp only [push]
      rw [if_pos (by omega)]
theorem stk_red : ∀ (w : List Int) {s : List Int}, Red s → Red (stk w s)
  | [], _, h => h
  | a :: w, _, h => stk_red w (push_red h a)
theorem stk_append (u v s : List Int) : stk (u ++ v) s = stk v (stk u s) := List.foldl_append ..
/-- a letter and its undoing, put in anywhere, change nothing -/
theorem stk_pair {s : List Int} (h : Red s) (u v : List Int) (a : Int) : stk (u ++ a :: -a :: v) s = stk (u ++ v) s := by
  rw [stk_append, stk_append]
  show stk v (push (push (stk u s) a) (-a)) = _
  rw [push_back (stk_red u h)]
/-- a reduced row is put on the stack letter by letter -/
theorem stk_self : ∀ (w : List Int) (s : List Int), Red (w.reverse ++ s) → stk w s = w.reverse ++ s
  | [], _, _ => rfl
  | a :: w, s, h => by
    have e : (a :: w).reverse ++ s = w.reverse ++ (a :: s) := by simp
    rw [e] at h ⊢
    have hs : Red (a :: s) := by
      have : ∀ (u t : List Int), Red (u ++ t) → Red t := fun u t => by
        induction u with
        | nil => exact id
        | cons b u ih => exact fun q => ih q.tail
      exact this _ _ h
    have p : push s a = a :: s := by
      cases s with
      | nil => rfl
      | cons b r =>
        have := hs.1
        rw [push_eq, if_neg (by omega)]
    show stk w (push s a) = _
    rw [p]
    exact stk_self w (a :: s) h
theorem red_cat : ∀ (u : List Int) {b : Int} {t : List Int}, Red (u ++ [b]) → (∀ c r, t = c :: r → b + c ≠ 0) → Red t → Red (u ++ b :: t)
  | [], b, t, _, h, ht => by
    cases t with
    | nil => trivial
    | cons c r => exact ⟨h c r rfl, ht⟩
  | [a], b, t, h0, h, ht => ⟨h0.1, red_cat [] trivial h ht⟩
  | a :: d :: u, b, t, h0, h, ht => ⟨h0.1, red_cat (d :: u) h0.2 h ht⟩
theorem red_rev : ∀ {w : List Int}, Red w → Red w.reverse
  | [], _ => trivial
  | [a], _ => trivial
  | a :: b :: w, h => by
    have ih := red_rev (w := b :: w) h.2
    rw [List.reverse_cons] at ih
    have e : (a :: b :: w).reverse = w.reverse ++ b :: [a] := by simp
    rw [e]
    exact red_cat _ ih (fun c r q => by cases q; have := h.1; omega) trivial
theorem red_self {w : List Int} (h : Red w) : red w = w := by
  unfold red
  rw [stk_self w [] (by rw [List.append_nil]; exact red_rev h)]
  simp
theorem red_red (w : List Int) : Red (red w) := red_rev (stk_red w trivial)
/-- alike on every reduced stack -/
def Eqv (u v : List Int) : Prop := ∀ s, Red s → stk u s = stk v s
theorem Eqv.cat {u v x y : List Int} (h : Eqv u v) (h2 : Eqv x y) : Eqv (u ++ x) (v ++ y) := fun s hs => by
  rw [stk_append, stk_append, h s hs, h2 _ (stk_red v hs)]
theorem eqv_push {t : List Int} (a : Int) : Eqv (t.reverse ++ [a]) (push t a).reverse := fun s hs => by
  cases t with
  | nil => rfl
  | cons b r =>
    rw [push_eq]
    by_cases q : b + a = 0
    · rw [if_pos q, List.reverse_cons, List.append_assoc]
      have e : a = -b := by omega
      subst e
      have := stk_pair hs r.reverse [] b
      rw [List.append_nil] at this
      exact this
    · rw [if_neg q]
      simp
theorem eqv_stk : ∀ (w t : List Int), Eqv (t.reverse ++ w) (stk w t).reverse
  | [], t, s, _ => by rw [List.append_nil]; rfl
  | a :: w, t, s, hs => by
    have e : t.reverse ++ a :: w = (t.reverse ++ [a]) ++ w := by simp
    rw [e, ((eqv_push a).cat (fun _ _ => rfl : Eqv w w)) s hs]
    exact eqv_stk w (push t a) s hs
theorem eqv_red (w : List Int) : Eqv w (red w) := eqv_stk w []
theorem Eqv.red {u v : List Int} (h : Eqv u v) : red u = red v := by
  unfold FG.red
  rw [h [] trivial]
theorem red_cat_red (u v : List Int) : red (red u ++ red v) = red (u ++ v) := Eqv.red fun s hs => (((eqv_red u).cat (eqv_red v)) s hs).symm
theorem inv_cons (a : Int) (w : List Int) : inv (a :: w) = inv w ++ [-a] := by unfold inv; simp
theorem inv_append (u v : List Int) : inv (u ++ v) = inv v ++ inv u := by unfold inv; simp
theorem inv_inv (w : List Int) : inv (inv w) = w := by
  unfold inv
  rw [List.map_reverse, List.reverse_reverse, List.map_map]
  have : (fun a : Int => -a) ∘ (fun a : Int => -a) = id := by funext a; simp
  rw [this, List.map_id]
theorem inv_length (w : List Int) : (inv w).length = w.length := by unfold inv; simp
theorem eqv_refl (w : List Int) : Eqv w w := fun _ _ => rfl
theorem eqv_inv : ∀ w : List Int, Eqv (w ++ inv w) []
  | [], _, _ => rfl
  | a :: w, s, hs => by
    rw [inv_cons]
    have e : a :: w ++ (inv w ++ [-a]) = [a] ++ ((w ++ inv w) ++ [-a]) := by simp
    rw [e, ((eqv_refl [a]).cat ((eqv_inv w).cat (eqv_refl [-a]))) s hs]
    exact stk_pair hs [] [] a
theorem eqv_inv' (w : List Int) : Eqv (inv w ++ w) [] := by
  have := eqv_inv (inv w)
  rw [inv_inv] at this
  exact this
theorem red_map_neg : ∀ {w : List Int}, Red w → Red (w.map fun a => -a)
  | [], _ => trivial
  | [_], _ => trivial
  | a :: b :: w, h => ⟨fun (q : -a + -b = 0) => h.1 (by omega), red_map_neg (w := b :: w) h.2⟩
theorem red_inv {w : List Int} (h : Red w) : Red (inv w) := red_rev (red_map_neg h)
end FG

set_option maxHeartbeats 4000000
namespace FG
/-! # Powers and periods -/
def pw (w : List Int) : Nat → List Int
  | 0 => []
  | n + 1 => w ++ pw w n
theorem pw_length (w : List Int) : ∀ n, (pw w n).length = n * w.length
  | 0 => by simp [pw]
  | n + 1 => by simp only [pw, List.length_append, pw_length w n, Nat.succ_mul]; omega
theorem pw_snoc (w : List Int) : ∀ n, pw w (n + 1) = pw w n ++ w
  | 0 => by simp [pw]
  | n + 1 => by
    have := pw_snoc w n
    show w ++ pw w (n + 1) = (w ++ pw w n) ++ w
    rw [this, List.append_assoc]
theorem pw_add (w : List Int) (m : Nat) : ∀ n, pw w (n + m) = pw w n ++ pw w m
  | 0 => by simp [pw]
  | n + 1 => by
    rw [Nat.succ_add]
    show w ++ pw w (n + m) = (w ++ pw w n) ++ pw w m
    rw [pw_add w m n, List.append_assoc]
theorem pw_mul (w : List Int) (m : Nat) : ∀ n, pw (pw w m) n = pw w (n * m)
  | 0 => by simp [pw]
  | n + 1 => by
    show pw w m ++ pw (pw w m) n = _
    rw [pw_mul w m n, Nat.succ_mul, Nat.add_comm, pw_add]
theorem inv_pw (w : List Int) : ∀ n, inv (pw w n) = pw (inv w) n
  | 0 => rfl
  | n + 1 => by
    show inv (w ++ pw w n) = _
    rw [inv_append, inv_pw w n, pw_snoc]
/-- the letter at a place of the ring c -/
def at_ (c : List Int) (i : Nat) : Int := c.getD (i % c.length) 0
/-- l is a period: c is its first l letters again and again -/
def Per (c : List Int) (l : Nat) : Prop := 0 < l ∧ l ≤ c.length ∧ c = pw (c.take l) (c.length / l)
theorem pw_get (w : List Int) : ∀ (n i : Nat), i < n * w.length → (pw w n).getD i 0 = w.getD (i % w.length) 0
  | 0, i, h => by omega
  | n + 1, i, h => by
    show (w ++ pw w n).getD i 0 = _
    by_cases q : i < w.length
    · rw [Nat.mod_eq_of_lt q, List.getD_eq_getElem?_getD, List.getD_eq_getElem?_getD, List.getElem?_append_left q]
    · have h2 : i - w.length < n * w.length := by rw [Nat.succ_mul] at h; omega
      rw [List.getD_eq_getElem?_getD, List.getElem?_append_right (by omega), ← List.getD_eq_getElem?_getD, pw_get w n (i - w.length) h2, ← Nat.mod_eq_sub_mod (by omega)]
theorem per_at {c : List Int} {l : Nat} (h : Per c l) : l ∣ c.length ∧ ∀ i, at_ c (i + l) = at_ c i := by
  obtain ⟨h0, h1, h2⟩ := h
  have hl : (c.take l).length = l := by rw [List.length_take]; omega
  have hn : c.length = c.length / l * l := by
    have := congrArg List.length h2
    rw [pw_length, hl] at this
    exact this
  have hd : l ∣ c.length := ⟨c.length / l, by rw [Nat.mul_comm]; exact hn⟩
  have key : ∀ i, at_ c i = (c.take l).getD (i % l) 0 := fun i => by
    have hlt : i % c.length < c.length / l * (c.take l).length := by
      rw [hl, ← hn]
      exact Nat.mod_lt _ (by omega)
    have := pw_get (c.take l) (c.length / l) (i % c.length) hlt
    rw [← h2, hl, Nat.mod_mod_of_dvd _ hd] at this
    exact this
  exact ⟨hd, fun i => by rw [key, key, Nat.add_mod_right]⟩
theorem at_mul {c : List Int} {l : Nat} (h : ∀ i, at_ c (i + l) = at_ c i) : ∀ k i, at_ c (i + k * l) = at_ c i
  | 0, i => by rw [Nat.zero_mul, Nat.add_zero]
  | k + 1, i => by rw [Nat.succ_mul, ← Nat.add_assoc, h, at_mul h k i]
theorem at_lt {c : List Int} {i : Nat} (h : i < c.length) : at_ c i = c[i] := by
  unfold at_
  rw [Nat.mod_eq_of_lt h, List.getD_eq_getElem?_getD, List.getElem?_eq_getElem h]
  rfl
theorem at_per {c : List Int} {l : Nat} (hc : c ≠ []) (hd : l ∣ c.length) (h : ∀ i, at_ c (i + l) = at_ c i) : Per c l := by
  have hp : 0 < c.length := List.length_pos_iff.mpr hc
  have h0 : 0 < l := Nat.pos_of_dvd_of_pos hd hp
  have h1 : l ≤ c.length := Nat.le_of_dvd hp hd
  have hl : (c.take l).length = l := by rw [List.length_take]; omega
  have hn : c.length / l * l = c.length := Nat.div_mul_cancel hd
  refine ⟨h0, h1, ?_⟩
  refine List.ext_getElem (by rw [pw_length, hl, hn]) fun i hi hi2 => ?_
  have e := pw_get (c.take l) (c.length / l) i (by rw [hl, hn]; exact hi)
  rw [List.getD_eq_getElem?_getD, List.getElem?_eq_getElem hi2, hl] at e
  have hm : i % l < l := Nat.mod_lt _ h0
  have e2 : (c.take l).getD (i % l) 0 = c[i % l]'(by omega) := by
    rw [List.getD_eq_getElem?_getD, List.getElem?_take_of_lt hm, List.getElem?_eq_getElem (by omega)]
    rfl
  rw [e2] at e
  have e3 : (pw (c.take l) (c.length / l))[i] = c[i % l]'(by omega) := e
  rw [e3, ← at_lt hi, ← at_lt (show i % l < c.length by omega)]
  have := at_mul h (i / l) (i % l)
  rw [Nat.mod_add_div' i l] at this
  exact this
theorem at_sub {c : List Int} {l m : Nat} (h : ∀ i, at_ c (i + l) = at_ c i) (h2 : ∀ i, at_ c (i + m) = at_ c i) (hlm : l ≤ m) : ∀ i, at_ c (i + (m - l)) = at_ c i := fun i => by
  rw [← h, Nat.add_assoc, Nat.sub_add_cancel hlm, h2]
theorem at_gcd {c : List Int} : ∀ (n l m : Nat), l + m ≤ n → (∀ i, at_ c (i + l) = at_ c i) → (∀ i, at_ c (i + m) = at_ c i) → ∀ i, at_ c (i + Nat.gcd l m) = at_ c i
  | 0, l, m, hn, h, h2 => by
    have : l = 0 := by omega
    have : m = 0 := by omega
    subst_vars
    exact h
  | n + 1, l, m, hn, h, h2 => by
    by_cases z : l = 0
    · subst z; rw [Nat.gcd_zero_left]; exact h2
    · by_cases z2 : m = 0
      · subst z2; rw [Nat.gcd_zero_right]; exact h
      · by_cases q : l ≤ m
        · have := at_gcd n l (m - l) (by omega) h (at_sub h h2 q)
          rw [Nat.gcd_sub_self_right q] at this
          exact this
        · have := at_gcd n (l - m) m (by omega) (at_sub h2 h (by omega)) h2
          rw [Nat.gcd_sub_self_left (by omega)] at this
          exact this
theorem per_gcd {c : List Int} {l m : Nat} (hc : c ≠ []) (h : Per c l) (h2 : Per c m) : Per c (Nat.gcd l m) := by
  obtain ⟨d1, a1⟩ := per_at h
  obtain ⟨d2, a2⟩ := per_at h2
  exact at_per hc (Nat.dvd_trans (Nat.gcd_dvd_left l m) d1) (at_gcd (l + m) l m (Nat.le_refl _) a1 a2)
/-- the least period -/
def IsLp (c : List Int) (l : Nat) : Prop := Per c l ∧ ∀ m, Per c m → l ≤ m
theorem lp_uniq {c : List Int} {l m : Nat} (h : IsLp c l) (h2 : IsLp c m) : l = m := Nat.le_antisymm (h.2 m h2.1) (h2.2 l h.1)
theorem per_self {c : List Int} (hc : c ≠ []) : Per c c.length := by
  have hp : 0 < c.length := List.length_pos_iff.mpr hc
  refine ⟨hp, Nat.le_refl _, ?_⟩
  rw [Nat.div_self hp, List.take_length]
  simp [pw]
theorem pw_ne {c : List Int} (hc : c ≠ []) {n : Nat} (hn : 1 ≤ n) : pw c n ≠ [] := by
  have hp : 0 < c.length := List.length_pos_iff.mpr hc
  refine List.length_pos_iff.mp ?_
  rw [pw_length]
  exact Nat.mul_pos (by omega) hp
theorem at_pw {c : List Int} (hc : c ≠ []) {n : Nat} (hn : 1 ≤ n) (i : Nat) : at_ (pw c n) i = at_ c i := by
  have hp : 0 < c.length := List.length_pos_iff.mpr hc
  have hlt : i % (pw c n).length < n * c.length := by
    rw [← pw_length]
    exact Nat.mod_lt _ (List.length_pos_iff.mpr (pw_ne hc hn))
  unfold at_
  rw [pw_get c n _ hlt, pw_length, Nat.mod_mod_of_dvd _ (Nat.dvd_mul_left ..)]
theorem lp_pw {c : List Int} {l : Nat} (hc : c ≠ []) {n : Nat} (hn : 1 ≤ n) (h : IsLp c l) : IsLp (pw c n) l := by
  obtain ⟨d1, a1⟩ := per_at h.1
  have hC := pw_ne hc hn
  refine ⟨at_per hC ?_ fun i => by rw [at_pw hc hn, at_pw hc hn, a1], fun m hm => ?_⟩
  · rw [pw_length]
    exact Nat.dvd_trans d1 (Nat.dvd_mul_left ..)
  · obtain ⟨d2, a2⟩ := per_at hm
    have a2' : ∀ i, at_ c (i + m) = at_ c i := fun i => by rw [← at_pw hc hn, ← at_pw hc hn, a2]
    have g := at_gcd (l + m) l m (Nat.le_refl _) a1 a2'
    have hg : Per c (Nat.gcd l m) := at_per hc (Nat.dvd_trans (Nat.gcd_dvd_left l m) d1) g
    exact Nat.le_trans (h.2 _ hg) (Nat.le_of_dvd hm.1 (Nat.gcd_dvd_right l m))
/-- a period divides the length -/
theorem per_dvd {c : List Int} {l : Nat} (h : Per c l) : c.length / l * l = c.length := Nat.div_mul_cancel (per_at h).1
theorem lp_dvd {c : List Int} {l m : Nat} (hc : c ≠ []) (h : IsLp c l) (h2 : Per c m) : l ∣ m := by
  have hg := per_gcd hc h.1 h2
  have : l ≤ Nat.gcd l m := h.2 _ hg
  have e : Nat.gcd l m = l := Nat.le_antisymm (Nat.le_of_dvd h.1.1 (Nat.gcd_dvd_left l m)) this
  rw [← e]
  exact Nat.gcd_dvd_right l m
end FG

set_option maxHeartbeats 4000000
namespace FG
/-! # Rings, roots -/
theorem Red.right : ∀ {u v : List Int}, Red (u ++ v) → Red v
  | [], _, h => h
  | _ :: u, _, h => Red.right (u := u) h.tail
theorem Red.left : ∀ {u v : List Int}, Red (u ++ v) → Red u
  | [], _, _ => trivial
  | [_], _, _ => trivial
  | a :: b :: u, v, h => ⟨h.1, Red.left (u := b :: u) h.2⟩
/-- gluing: what overlaps in a row that is not empty -/
theorem red_glue : ∀ {u p v : List Int}, Red (u ++ p) → Red (p ++ v) → p ≠ [] → Red (u ++ p ++ v)
  | [], _, _, _, h, _ => h
  | [a], p, v, h, h2, hp => by
    cases p with
    | nil => exact absurd rfl hp
    | cons b p => exact ⟨h.1, h2⟩
  | a :: b :: u, p, v, h, h2, hp => ⟨h.1, red_glue (u := b :: u) h.2 h2 hp⟩
theorem inv_ne {w : List Int} (h : w ≠ []) : inv w ≠ [] := fun e => h (by
  have := inv_length w
  rw [e] at this
  exact List.length_eq_zero_iff.mp this.symm)
/-- c is a ring: it stays reduced when it is put behind itself -/
def Cyc (c : List Int) : Prop := c ≠ [] ∧ Red (c ++ c)
theorem cyc_pw {c : List Int} (h : Cyc c) : ∀ n, Red (pw c n)
  | 0 => trivial
  | 1 => by simp only [pw, List.append_nil]; exact h.2.left
  | n + 2 => by
    have ih := cyc_pw h (n + 1)
    show Red (c ++ (c ++ pw c n))
    rw [← List.append_assoc]
    exact red_glue h.2 ih h.1
theorem cyc_pw' {c : List Int} (h : Cyc c) {n : Nat} (hn : 1 ≤ n) : Cyc (pw c n) := ⟨pw_ne h.1 hn, by rw [← pw_add]; exact cyc_pw h _⟩
theorem cyc_inv {c : List Int} (h : Cyc c) : Cyc (inv c) := ⟨inv_ne h.1, by rw [← inv_append]; exact red_inv h.2⟩
/-- w is the ring c with the head h -/
def Rg (w h c : List Int) : Prop := w = h ++ c ++ inv h ∧ Cyc c
theorem cyc_ends {a : Int} {m : List Int} (h : Cyc (a :: m ++ [-a])) : False := by
  have h2 := h.2
  have e : (a :: m ++ [-a]) ++ (a :: m ++ [-a]) = (a :: m) ++ ([-a, a] ++ (m ++ [-a])) := by simp
  rw [e] at h2
  exact h2.right.1 (by omega)
theorem rg_uniq : ∀ {h h' : List Int} {w c c' : List Int}, Rg w h c → Rg w h' c' → h = h' ∧ c = c'
  | [], [], w, c, c', ⟨e, _⟩, ⟨e', _⟩ => by
    simp [inv] at e e'
    exact ⟨rfl, by rw [← e, ← e']⟩
  | [], b :: s, w, c, c', ⟨e, k⟩, ⟨e', _⟩ => by
    rw [inv_cons] at e'
    simp [inv] at e
    have : c = b :: (s ++ c' ++ inv s) ++ [-b] := by rw [← e, e']; simp [inv]
    rw [this] at k
    exact (cyc_ends k).elim
  | a :: t, [], w, c, c', ⟨e, _⟩, ⟨e', k⟩ => by
    rw [inv_cons] at e
    simp [inv] at e'
    have : c' = a :: (t ++ c ++ inv t) ++ [-a] := by rw [← e', e]; simp [inv]
    rw [this] at k
    exact (cyc_ends k).elim
  | a :: t, b :: s, w, c, c', ⟨e, k⟩, ⟨e', k'⟩ => by
    rw [inv_cons] at e e'
    have q : a :: ((t ++ c ++ inv t) ++ [-a]) = b :: ((s ++ c' ++ inv s) ++ [-b]) := by
      have := e.symm.trans e'
      simpa using this
    injection q with q1 q2
    subst q1
    have q3 := List.append_cancel_right q2
    obtain ⟨x, y⟩ := rg_uniq (h := t) (h' := s) (w := t ++ c ++ inv t) ⟨rfl, k⟩ ⟨q3, k'⟩
    exact ⟨by rw [x], y⟩
theorem rg_red {w h c : List Int} (r : Rg w h c) (n : Nat) (hn : 1 ≤ n) (hw : Red w) : Red (h ++ pw c n ++ inv h) := by
  obtain ⟨e, k⟩ := r
  subst e
  have a : Red (h ++ c) := hw.left
  have b : Red (c ++ inv h) := by rw [List.append_assoc] at hw; exact hw.right
  have p := cyc_pw k n
  obtain ⟨m, rfl⟩ : ∃ m, n = m + 1 := ⟨n - 1, by omega⟩
  have a2 : Red (h ++ pw c (m + 1)) := by
    show Red (h ++ (c ++ pw c m))
    rw [← List.append_assoc]
    exact red_glue a p k.1
  have b2 : Red (pw c (m + 1) ++ inv h) := by
    have p' := p
    rw [pw_snoc] at p' ⊢
    exact red_glue p' b k.1
  exact red_glue a2 b2 (pw_ne k.1 (by omega))
theorem eqv_trans {u v w : List Int} (a : Eqv u v) (b : Eqv v w) : Eqv u w := fun s hs => (a s hs).trans (b s hs)
theorem eqv_symm {u v : List Int} (a : Eqv u v) : Eqv v u := fun s hs => (a s hs).symm
theorem eqv_pw {u v : List Int} (a : Eqv u v) : ∀ n, Eqv (pw u n) (pw v n)
  | 0 => eqv_refl _
  | n + 1 => a.cat (eqv_pw a n)
/-- a word led round, again and again -/
theorem eqv_led (h c : List Int) : ∀ n, Eqv (pw (h ++ c ++ inv h) (n + 1)) (h ++ pw c (n + 1) ++ inv h)
  | 0 => by simp only [pw, List.append_nil]; exact eqv_refl _
  | n + 1 => by
    have ih := eqv_led h c n
    have e1 : pw (h ++ c ++ inv h) (n + 1 + 1) = (h ++ c ++ inv h) ++ pw (h ++ c ++ inv h) (n + 1) := rfl
    rw [e1]
    refine eqv_trans ((eqv_refl _).cat ih) ?_
    have e2 : (h ++ c ++ inv h) ++ (h ++ pw c (n + 1) ++ inv h) = (h ++ c) ++ ((inv h ++ h) ++ (pw c (n + 1) ++ inv h)) := by simp
    have e3 : h ++ pw c (n + 1 + 1) ++ inv h = (h ++ c) ++ ([] ++ (pw c (n + 1) ++ inv h)) := by
      rw [show pw c (n + 1 + 1) = c ++ pw c (n + 1) from rfl]
      simp
    rw [e2, e3]
    exact (eqv_refl _).cat ((eqv_inv' h).cat (eqv_refl _))
theorem rg_pw {w h c : List Int} (r : Rg w h c) (hw : Red w) {n : Nat} (hn : 1 ≤ n) : red (pw w n) = h ++ pw c n ++ inv h ∧ Rg (red (pw w n)) h (pw c n) := by
  obtain ⟨m, rfl⟩ : ∃ m, n = m + 1 := ⟨n - 1, by omega⟩
  have R := rg_red r (m + 1) hn hw
  obtain ⟨e, k⟩ := r
  have E := (eqv_led h c m).red
  rw [← e, red_self R] at E
  exact ⟨E, E, cyc_pw' k hn⟩
/-- r is the root of w, w is n times r -/
def Rt (w r : List Int) (n : Nat) : Prop := ∃ h c l, Rg w h c ∧ IsLp c l ∧ r = h ++ c.take l ++ inv h ∧ n = c.length / l
theorem rt_uniq {w r r' : List Int} {n n' : Nat} (a : Rt w r n) (b : Rt w r' n') : r = r' ∧ n = n' := by
  obtain ⟨h, c, l, g, p, rfl, rfl⟩ := a
  obtain ⟨h', c', l', g', p', rfl, rfl⟩ := b
  obtain ⟨rfl, rfl⟩ := rg_uniq g g'
  have := lp_uniq p p'
  subst this
  exact ⟨rfl, rfl⟩
theorem rt_pos {w r : List Int} {n : Nat} (a : Rt w r n) : 1 ≤ n := by
  obtain ⟨h, c, l, g, p, _, rfl⟩ := a
  exact Nat.div_pos p.1.2.1 p.1.1
theorem take_pw {c : List Int} {l n : Nat} (hn : 1 ≤ n) (hl : l ≤ c.length) : (pw c n).take l = c.take l := by
  obtain ⟨m, rfl⟩ : ∃ m, n = m + 1 := ⟨n - 1, by omega⟩
  show (c ++ pw c m).take l = _
  rw [List.take_append_of_le_length hl]
theorem rt_pw {w r : List Int} {n m : Nat} (a : Rt w r n) (hw : Red w) (hm : 1 ≤ m) : Rt (red (pw w m)) r (n * m) := by
  obtain ⟨h, c, l, g, p, rfl, rfl⟩ := a
  refine ⟨h, pw c m, l, (rg_pw g hw hm).2, lp_pw g.2.1 hm p, by rw [take_pw hm p.1.2.1], ?_⟩
  rw [pw_length, Nat.mul_comm m, Nat.mul_comm _ m]
  have := per_dvd p.1
  have h0 := p.1.1
  conv => rhs; rw [← this]
  rw [show c.length / l * l * m = l * (m * (c.length / l)) from by rw [Nat.mul_comm (c.length / l) l, Nat.mul_assoc, Nat.mul_comm (c.length / l)], Nat.mul_div_cancel_left _ h0]
theorem per_take {c : List Int} {l m : Nat} (hc : c ≠ []) (h : Per c l) (h2 : Per (c.take l) m) : Per c m := by
  obtain ⟨d1, a1⟩ := per_at h
  obtain ⟨d2, a2⟩ := per_at h2
  have hl : (c.take l).length = l := by rw [List.length_take]; have := h.2.1; omega
  have hp : c.take l ≠ [] := fun e => by rw [e] at hl; have := h.1; simp at hl; omega
  have hn : 1 ≤ c.length / l := Nat.div_pos h.2.1 h.1
  rw [hl] at d2
  refine at_per hc (Nat.dvd_trans d2 d1) fun i => ?_
  have e : ∀ i, at_ c i = at_ (c.take l) i := fun i => by
    have := at_pw hp hn i
    rw [← h.2.2] at this
    exact this
  rw [e, e, a2]
theorem rt_root {w r : List Int} {n : Nat} (a : Rt w r n) (hw : Red w) : Red r ∧ Rt r r 1 ∧ red (pw r n) = w := by
  have hn := rt_pos a
  obtain ⟨h, c, l, g, p, rfl, rfl⟩ := a
  have hl : (c.take l).length = l := by rw [List.length_take]; have := p.1.2.1; omega
  have hp : c.take l ≠ [] := fun e => by rw [e] at hl; have := p.1.1; simp at hl; omega
  have E := p.1.2.2
  have hc : Cyc (c.take l) := by
    refine ⟨hp, ?_⟩
    have k := g.2.2
    obtain ⟨m, q⟩ : ∃ m, c.length / l = m + 1 := ⟨c.length / l - 1, by omega⟩
    rw [q] at E
    generalize c.take l = p at E
    rw [E] at k
    cases m with
    | zero => simpa [pw] using k
    | succ m =>
      have k2 := k.left
      rw [show pw p (m + 1 + 1) = p ++ (p ++ pw p m) from rfl, ← List.append_assoc] at k2
      exact k2.left
  have R : Red (h ++ c.take l ++ inv h) := by
    have e := g.1
    have k1 : Red (h ++ c.take l) := by
      have : Red (h ++ (c.take l ++ c.drop l)) := by rw [List.take_append_drop]; rw [e] at hw; exact hw.left
      rw [← List.append_assoc] at this
      exact this.left
    have k2 : Red (c.take l ++ inv h) := by
      obtain ⟨m, q⟩ : ∃ m, c.length / l = m + 1 := ⟨c.length / l - 1, by omega⟩
      rw [q, pw_snoc] at E
      have : Red (c ++ inv h) := by rw [e, List.append_assoc] at hw; exact hw.right
      generalize c.take l = p at E ⊢
      rw [E, List.append_assoc] at this
      exact this.right
    exact red_glue k1 k2 hp
  have G : Rg (h ++ c.take l ++ inv h) h (c.take l) := ⟨rfl, hc⟩
  refine ⟨R, ⟨h, c.take l, l, G, ⟨?_, fun m hm => p.2 m (per_take g.2.1 p.1 hm)⟩, ?_, ?_⟩, ?_⟩
  · have := per_self hp
    rw [hl] at this
    exact this
  · rw [List.take_take, Nat.min_self]
  · rw [hl, Nat.div_self p.1.1]
  · rw [(rg_pw G R hn).1, ← E]
    exact g.1.symm
theorem per_inv {c : List Int} {m : Nat} (h : Per c m) : Per (inv c) m ∧ (inv c).take m = inv (c.take m) := by
  have hl : (inv (c.take m)).length = m := by rw [inv_length, List.length_take]; have := h.2.1; omega
  have hn : 1 ≤ c.length / m := Nat.div_pos h.2.1 h.1
  have e : inv c = pw (inv (c.take m)) (c.length / m) := by
    have := congrArg inv h.2.2
    rw [inv_pw] at this
    exact this
  have t : (inv c).take m = inv (c.take m) := by
    rw [e, take_pw hn (by omega), List.take_of_length_le (by omega)]
  refine ⟨⟨h.1, by rw [inv_length]; exact h.2.1, ?_⟩, t⟩
  rw [t, inv_length]
  exact e
theorem lp_inv {c : List Int} {l : Nat} (h : IsLp c l) : IsLp (inv c) l := ⟨(per_inv h.1).1, fun m hm => h.2 m (by
  have := (per_inv hm).1
  rw [inv_inv] at this
  exact this)⟩
theorem rt_inv {w r : List Int} {n : Nat} (a : Rt w r n) : Rt (inv w) (inv r) n := by
  obtain ⟨h, c, l, g, p, rfl, rfl⟩ := a
  refine ⟨h, inv c, l, ⟨?_, cyc_inv g.2⟩, lp_inv p, ?_, ?_⟩
  · rw [g.1, inv_append, inv_append, inv_inv, List.append_assoc]
  · rw [(per_inv p.1).2, inv_append, inv_append, inv_inv, List.append_assoc]
  · rw [inv_length]
/-! ### there is one -/
theorem lp_ex {c : List Int} (hc : c ≠ []) : ∃ l, IsLp c l := by
  have : ∀ n, (∃ l, Per c l ∧ l ≤ n) → ∃ l, IsLp c l := fun n => by
    induction n with
    | zero => exact fun ⟨l, p, q⟩ => by have := p.1; omega
    | succ n ih =>
      rintro ⟨l, p, q⟩
      by_cases z : ∃ l, Per c l ∧ l ≤ n
      · exact ih z
      · refine ⟨l, p, fun m hm => ?_⟩
        by_cases y : m ≤ n
        · exact absurd ⟨m, hm, y⟩ z
        · omega
  exact this c.length ⟨_, per_self hc, Nat.le_refl _⟩
theorem red_mid {a b : Int} {m : List Int} (h : Red (a :: m ++ [b])) : Red m := by
  have : Red (m ++ [b]) := h.tail
  exact this.left
theorem cyc_of {a b : Int} {m : List Int} (h : Red (a :: m ++ [b])) (k : a + b ≠ 0) : Cyc (a :: m ++ [b]) := by
  refine ⟨by simp, ?_⟩
  have : Red ((a :: m) ++ b :: (a :: m ++ [b])) := red_cat _ h (fun c r q => by cases q; omega) h
  simpa using this
theorem cyc_one {a : Int} (h : a ≠ 0) : Cyc [a] := ⟨by simp, (by omega : a + a ≠ 0), trivial⟩
theorem rg_step {h m : List Int} {a b : Int} (k : a + b = 0) : h ++ (a :: m ++ [b]) ++ inv h = (h ++ [a]) ++ m ++ inv (h ++ [a]) := by
  have : b = -a := by omega
  subst this
  rw [inv_append]
  simp [inv]
theorem rg_ex : ∀ (n : Nat) {w : List Int}, w.length ≤ n → w ≠ [] → Red w → (∀ i ∈ w, i ≠ 0) → ∃ h c, Rg w h c
  | 0, w, hn, hw, _, _ => absurd (List.length_eq_zero_iff.mp (by omega)) hw
  | n + 1, [], _, hw, _, _ => absurd rfl hw
  | n + 1, [a], _, _, _, hz => ⟨[], [a], by simp [inv], cyc_one (hz a (by simp))⟩
  | n + 1, a :: d :: t, hn, _, hr, hz => by
    rcases List.eq_nil_or_concat (d :: t) with q | ⟨m, b, q⟩
    · cases q
    · rw [List.concat_eq_append] at q
      rw [q] at hn hr hz ⊢
      by_cases k : a + b = 0
      · have hm : m ≠ [] := fun e => by subst e; exact hr.1 k
        obtain ⟨h, c, g⟩ := rg_ex n (w := m) (by simp at hn; omega) hm (red_mid hr) fun i hi => hz i (by simp [hi])
        refine ⟨a :: h, c, ?_, g.2⟩
        have := g.1
        rw [inv_cons]
        have e : b = -a := by omega
        subst e
        rw [this]
        simp
      · exact ⟨[], a :: m ++ [b], by simp [inv], cyc_of hr k⟩
theorem rt_ex {w : List Int} (hw : w ≠ []) (hr : Red w) (hz : ∀ i ∈ w, i ≠ 0) : ∃ r n, Rt w r n := by
  obtain ⟨h, c, g⟩ := rg_ex w.length (Nat.le_refl _) hw hr hz
  obtain ⟨l, p⟩ := lp_ex g.2.1
  exact ⟨_, _, h, c, l, g, p, rfl, rfl⟩
end FG

set_option maxHeartbeats 4000000
namespace FG
/-! # Led words, exponents -/
theorem red_nil : red [] = [] := rfl
theorem red_idem (w : List Int) : red (red w) = red w := red_self (red_red w)
theorem red_of_eqv {u v : List Int} (h : Eqv u v) : red u = red v := h.red
theorem eqv_of_red {u v : List Int} (h : red u = red v) : Eqv u v := by
  have a := eqv_red u
  have b := eqv_red v
  rw [h] at a
  exact eqv_trans a (eqv_symm b)
theorem pw_one (w : List Int) : pw w 1 = w := by simp [pw]
/-- w led by g -/
def ledr (w g : List Int) : List Int := red (inv g ++ w ++ g)
theorem eqv_ledr (w g : List Int) : Eqv (ledr w g) (inv g ++ w ++ g) := eqv_symm (eqv_red _)
theorem ledr_pw (w g : List Int) {n : Nat} (hn : 1 ≤ n) : red (pw (ledr w g) n) = ledr (red (pw w n)) g := by
  obtain ⟨m, rfl⟩ : ∃ m, n = m + 1 := ⟨n - 1, by omega⟩
  refine red_of_eqv (eqv_trans (eqv_pw (eqv_ledr w g) _) ?_)
  have := eqv_led (inv g) w m
  rw [inv_inv] at this
  refine eqv_trans this ?_
  exact ((eqv_refl _).cat (eqv_red _)).cat (eqv_refl _)
theorem ledr_back (w g : List Int) : ledr (ledr w g) (inv g) = red w := by
  refine red_of_eqv ?_
  rw [inv_inv]
  refine eqv_trans (((eqv_refl g).cat (eqv_ledr w g)).cat (eqv_refl (inv g))) ?_
  have e : g ++ (inv g ++ w ++ g) ++ inv g = (g ++ inv g) ++ w ++ (g ++ inv g) := by simp
  rw [e]
  have := ((eqv_inv g).cat (eqv_refl w)).cat (eqv_inv g)
  simpa using this
theorem mem_push {s : List Int} {a x : Int} (h : x ∈ push s a) : x ∈ s ∨ x = a := by
  cases s with
  | nil => exact .inr (by simpa [push] using h)
  | cons b r =>
    rw [push_eq] at h
    split at h
    · exact .inl (List.mem_cons_of_mem _ h)
    · rcases List.mem_cons.mp h with h | h
      · exact .inr h
      · exact .inl h
theorem mem_stk : ∀ (w : List Int) {s : List Int} {x : Int}, x ∈ stk w s → x ∈ s ∨ x ∈ w
  | [], _, _, h => .inl h
  | a :: w, s, x, h => by
    rcases mem_stk w (s := push s a) h with h | h
    · rcases mem_push h with h | h
      · exact .inl h
      · exact .inr (by simp [h])
    · exact .inr (by simp [h])
/-- the letters of a reduced row are letters of the row -/
theorem mem_red {w : List Int} {x : Int} (h : x ∈ red w) : x ∈ w := by
  rcases mem_stk w (List.mem_reverse.mp h) with h | h
  · exact absurd h (by simp)
  · exact h
theorem push_len (s : List Int) (a : Int) : (push s a).length ≤ s.length + 1 := by
  cases s with
  | nil => simp [push]
  | cons b r =>
    rw [push_eq]
    split <;> simp <;> omega
theorem stk_len : ∀ (w s : List Int), (stk w s).length ≤ s.length + w.length
  | [], _ => Nat.le_refl _
  | a :: w, s => by
    have := stk_len w (push s a)
    have := push_len s a
    show (stk w (push s a)).length ≤ _
    rw [List.length_cons]
    omega
theorem red_len (w : List Int) : (red w).length ≤ w.length := by
  have := stk_len w []
  unfold red
  rw [List.length_reverse]
  simpa using this
theorem mem_inv {w : List Int} {x : Int} : x ∈ inv w ↔ -x ∈ w := by
  unfold inv
  rw [List.mem_reverse, List.mem_map]
  constructor
  · rintro ⟨a, h, rfl⟩
    rw [Int.neg_neg]
    exact h
  · exact fun h => ⟨-x, h, Int.neg_neg x⟩
/-- the root of a led word is the root, led -/
theorem rt_led {w r g : List Int} {n : Nat} (a : Rt w r n) (hw : Red w) (hwz : ∀ i ∈ w, i ≠ 0) (hgz : ∀ i ∈ g, i ≠ 0) : Rt (ledr w g) (ledr r g) n := by
  obtain ⟨hr, rr, e⟩ := rt_root a hw
  have hn := rt_pos a
  have rz : ∀ i ∈ r, i ≠ 0 := fun i hi => by
    obtain ⟨h, c, l, k, _, rfl, _⟩ := a
    refine hwz i ?_
    rw [k.1]
    rcases List.mem_append.mp hi with hi | hi
    · rcases List.mem_append.mp hi with hi | hi
      · simp [hi]
      · simp [List.mem_of_mem_take hi]
    · simp [hi]
  have lz : ∀ i ∈ ledr r g, i ≠ 0 := fun i hi => by
    have := mem_red hi
    rcases List.mem_append.mp this with q | q
    · rcases List.mem_append.mp q with q | q
      · have := hgz _ (mem_inv.mp q); omega
      · exact rz i q
    · exact hgz i q
  have rne : r ≠ [] := fun q => by
    obtain ⟨h, c, l, k, p, q2, _⟩ := rr
    rw [q] at k
    have := congrArg List.length k.1
    have := List.length_pos_iff.mpr k.2.1
    simp at *
    omega
  have lne : ledr r g ≠ [] := fun q => by
    have := ledr_back r g
    rw [q, red_self hr] at this
    refine rne (this.symm.trans ?_)
    show red (inv (inv g) ++ [] ++ inv g) = []
    rw [List.append_nil, inv_inv]
    exact (eqv_inv g).red
  obtain ⟨s, k, b⟩ := rt_ex lne (red_red _) lz
  obtain ⟨hs, ss, eb⟩ := rt_root b (red_red _)
  have hk := rt_pos b
  -- r is the k-th power of s led back
  have q : red (pw (ledr s (inv g)) k) = r := by
    rw [ledr_pw s (inv g) hk, eb, ledr_back, red_self hr]
  have tne : ledr s (inv g) ≠ [] := fun z => by
    rw [z] at q
    refine rne (q.symm.trans ?_)
    have : ∀ k, pw [] k = [] := fun k => by induction k with
      | zero => rfl
      | succ k ih => exact ih
    rw [this]
    rfl
  have tz : ∀ i ∈ ledr s (inv g), i ≠ 0 := fun i hi => by
    have sz : ∀ i ∈ s, i ≠ 0 := fun i hi => by
      obtain ⟨h, c, l, k, _, rfl, _⟩ := b
      refine lz i ?_
      rw [k.1]
      rcases List.mem_append.mp hi with hi | hi
      · rcases List.mem_append.mp hi with hi | hi
        · simp [hi]
        · simp [List.mem_of_mem_take hi]
      · simp [hi]
    have := mem_red hi
    rw [inv_inv] at this
    rcases List.mem_append.mp this with q | q
    · rcases List.mem_append.mp q with q | q
      · exact hgz i q
      · exact sz i q
    · have := hgz _ (mem_inv.mp q); omega
  obtain ⟨t, m, d⟩ := rt_ex tne (red_red _) tz
  have f := rt_pw d (red_red _) hk
  rw [q] at f
  have u := (rt_uniq f rr).2
  have k1 : k = 1 := Nat.eq_one_of_mul_eq_one_left u
  subst k1
  have sl : s = ledr r g := by
    rw [pw_one, red_self hs] at eb
    exact eb
  rw [sl] at b
  have fin := rt_pw b (red_red _) hn
  rw [ledr_pw r g hn, e, Nat.one_mul] at fin
  exact fin
theorem rt_ne {w r : List Int} {n : Nat} (a : Rt w r n) : w ≠ [] := by
  obtain ⟨h, c, l, k, _⟩ := a
  intro z
  have e := k.1
  rw [z] at e
  have := congrArg List.length e
  have := List.length_pos_iff.mpr k.2.1
  simp at *
  omega
/-- nothing but the empty word is its own undoing -/
theorem inv_self : ∀ (n : Nat) {w : List Int}, w.length ≤ n → Red w → (∀ i ∈ w, i ≠ 0) → w = inv w → w = []
  | _, [], _, _, _, _ => rfl
  | 0, a :: w, h, _, _, _ => by simp at h
  | n + 1, [a], _, _, hz, e => by
    have e : [a] = [-a] := e
    have := hz a (by simp)
    injection e with e
    omega
  | n + 1, a :: d :: t, hn, hr, hz, e => by
    rcases List.eq_nil_or_concat (d :: t) with q | ⟨m, b, q⟩
    · cases q
    · rw [List.concat_eq_append] at q
      rw [q] at hn hr hz e
      have e2 : inv (a :: (m ++ [b])) = -b :: inv m ++ [-a] := by rw [inv_cons, inv_append]; rfl
      rw [e2] at e
      injection e with x y
      have y := (List.append_inj' y rfl).1
      have hm := inv_self n (w := m) (by simp at hn; omega) (red_mid hr) (fun i hi => hz i (by simp [hi])) y
      subst hm
      exact absurd (show a + b = 0 by omega) hr.1
theorem rt_len {w r : List Int} {n : Nat} (a : Rt w r n) : n ≤ w.length := by
  obtain ⟨h, c, l, k, p, _, rfl⟩ := a
  rw [k.1]
  have : c.length / l ≤ c.length := Nat.div_le_self ..
  simp
  omega
/-! ### exponents -/
/-- the n-th power -/
def nth (o : List Int) (n : Nat) : List Int := red (pw o n)
theorem nth_succ (o : List Int) (n : Nat) : red (nth o n ++ o) = nth o (n + 1) := by
  unfold nth
  rw [pw_snoc]
  exact red_of_eqv ((eqv_symm (eqv_red _)).cat (eqv_refl _))
theorem nth_inv (o : List Int) (n : Nat) : nth (inv o) n = inv (nth o n) := by
  unfold nth
  have a : Eqv (inv (pw o n)) (inv (red (pw o n))) := by
    have h := eqv_red (pw o n)
    -- undoings of what is alike are alike
    refine eqv_trans (v := inv (pw o n) ++ (red (pw o n) ++ inv (red (pw o n)))) ?_ ?_
    · have := (eqv_refl (inv (pw o n))).cat (eqv_symm (eqv_inv (red (pw o n))))
      rw [List.append_nil] at this
      exact this
    · rw [← List.append_assoc]
      have : Eqv (inv (pw o n) ++ red (pw o n)) [] := eqv_trans ((eqv_refl _).cat (eqv_symm h)) (eqv_inv' _)
      have := this.cat (eqv_refl (inv (red (pw o n))))
      rw [List.nil_append] at this
      exact this
  rw [← inv_pw, red_of_eqv a, red_self (red_inv (red_red _))]
/-- powers of a word grow -/
theorem nth_len {o r : List Int} {q : Nat} (a : Rt o r q) (ho : Red o) {m n : Nat} (hm : 1 ≤ m) (h : m < n) : (nth o m).length < (nth o n).length := by
  obtain ⟨hd, c, l, k, p, _, _⟩ := a
  unfold nth
  rw [(rg_pw k ho hm).1, (rg_pw k ho (by omega : 1 ≤ n)).1]
  have h1 := List.length_pos_iff.mpr k.2.1
  simp only [List.length_append, pw_length]
  have : m * c.length < n * c.length := Nat.mul_lt_mul_of_pos_right h h1
  omega
theorem nth_many {o r : List Int} {q : Nat} (a : Rt o r q) (ho : Red o) {n : Nat} (hn : 1 ≤ n) : n ≤ (nth o n).length := by
  obtain ⟨hd, c, l, k, p, _, _⟩ := a
  unfold nth
  rw [(rg_pw k ho hn).1]
  have h1 := List.length_pos_iff.mpr k.2.1
  simp only [List.length_append, pw_length]
  have : n * 1 ≤ n * c.length := Nat.mul_le_mul_left n h1
  omega
/-- the law's way: all powers, one by one -/
def xl (w o : List Int) : Nat → Nat → Option Int
  | 0, _ => none
  | k + 1, m => if w = nth o (m + 1) ∨ w = nth (inv o) (m + 1) then some (if w = nth o (m + 1) then ((m + 1 : Nat) : Int) else 0 - ((m + 1 : Nat) : Int)) else if (nth o (m + 1)).length > w.length then none else xl w o k (m + 1)
theorem xl_none {w o : List Int} : ∀ (k m : Nat), (∀ n, 1 ≤ n → ¬ (w = nth o n ∨ w = nth (inv o) n)) → xl w o k m = none
  | 0, _, _ => rfl
  | k + 1, m, h => by
    unfold xl
    rw [if_neg (h (m + 1) (by omega))]
    split
    · rfl
    · exact xl_none k (m + 1) h
theorem xl_some {w o : List Int} {n : Nat} (hn : w = nth o n ∨ w = nth (inv o) n) (hlt : ∀ m, 1 ≤ m → m < n → ¬ (w = nth o m ∨ w = nth (inv o) m) ∧ (nth o m).length ≤ w.length) : ∀ (k m : Nat), m < n → n ≤ m + k → xl w o k m = some (if w = nth o n then (n : Int) else 0 - (n : Int))
  | 0, m, h, h2 => by omega
  | k + 1, m, h, h2 => by
    unfold xl
    by_cases q : m + 1 = n
    · rw [q, if_pos hn]
    · obtain ⟨x, y⟩ := hlt (m + 1) (by omega) (by omega)
      rw [if_neg x, if_neg (by omega)]
      exact xl_some hn hlt k (m + 1) (by omega) (by omega)
/-- the program's way: by the roots -/
def xr (r s : List Int) (k q : Nat) : Option Int := if q = 0 ∨ ¬(r = s ∨ r = inv s) ∨ (k % q ≠ 0) then none else some (if r = s then ((k / q : Nat) : Int) else 0 - ((k / q : Nat) : Int))
theorem xl_nil {w : List Int} (hw : w ≠ []) (k m : Nat) : xl w [] k m = none := by
  have e : ∀ n, nth [] n = [] := fun n => by
    unfold nth
    have : ∀ k, pw [] k = [] := fun k => by induction k with
      | zero => rfl
      | succ k ih => exact ih
    rw [this]
    rfl
  refine xl_none k m fun n _ => ?_
  rw [e]
  show ¬(w = [] ∨ w = nth [] n)
  rw [e]
  simp [hw]
theorem xl_xr {w o r s : List Int} {k q : Nat} (a : Rt w r k) (b : Rt o s q) (hw : Red w) (ho : Red o) (hoz : ∀ i ∈ o, i ≠ 0) : xl w o w.length 0 = xr r s k q := by
  have hk := rt_pos a
  have hq := rt_pos b
  obtain ⟨hr, rr, er⟩ := rt_root a hw
  obtain ⟨hs, ss, es⟩ := rt_root b ho
  have near : ∀ n, 1 ≤ n → Rt (nth o n) s (q * n) := fun n hn => rt_pw b ho hn
  have far : ∀ n, 1 ≤ n → Rt (nth (inv o) n) (inv s) (q * n) := fun n hn => rt_pw (rt_inv b) (red_inv ho) hn
  have sz : ∀ i ∈ s, i ≠ 0 := fun i hi => by
    obtain ⟨h, c, l, k, _, rfl, _⟩ := b
    refine hoz i ?_
    rw [k.1]
    rcases List.mem_append.mp hi with hi | hi
    · rcases List.mem_append.mp hi with hi | hi
      · simp [hi]
      · simp [List.mem_of_mem_take hi]
    · simp [hi]
  have nss : s ≠ inv s := fun z => rt_ne ss (inv_self s.length (Nat.le_refl _) hs sz z)
  have hit : ∀ n, 1 ≤ n → (w = nth o n ∨ w = nth (inv o) n) → (r = s ∨ r = inv s) ∧ k = q * n := fun n hn h => by
    rcases h with h | h
    · have := near n hn
      rw [← h] at this
      obtain ⟨x, y⟩ := rt_uniq a this
      exact ⟨.inl x, y⟩
    · have := far n hn
      rw [← h] at this
      obtain ⟨x, y⟩ := rt_uniq a this
      exact ⟨.inr x, y⟩
  by_cases c : (r = s ∨ r = inv s) ∧ k % q = 0
  · obtain ⟨c1, c2⟩ := c
    have kq : k = q * (k / q) := by have := Nat.div_add_mod k q; omega
    have hn : 1 ≤ k / q := by
      refine Nat.pos_of_ne_zero fun z => ?_
      rw [z] at kq
      omega
    generalize k / q = n at kq hn
    have W : w = nth o n ∧ r = s ∨ w = nth (inv o) n ∧ r = inv s := by
      have pe : ∀ {x y : List Int} {m n : Nat}, red (pw x m) = y → red (pw y n) = red (pw x (m * n)) := fun {x y m n} e => by
        rw [← e]
        refine (red_of_eqv (eqv_pw (eqv_symm (eqv_red _)) n)).trans ?_
        rw [pw_mul, Nat.mul_comm]
      rcases c1 with c1 | c1
      · left
        refine ⟨?_, c1⟩
        unfold nth
        rw [pe es, ← kq, ← c1]
        exact er.symm
      · right
        refine ⟨?_, c1⟩
        have := (rt_root (rt_inv b) (red_inv ho)).2.2
        unfold nth
        rw [pe this, ← kq, ← c1]
        exact er.symm
    have Wh : w = nth o n ∨ w = nth (inv o) n := by
      rcases W with W | W
      · exact .inl W.1
      · exact .inr W.1
    have lenW : w.length = (nth o n).length := by
      rcases Wh with e | e
      · rw [e]
      · rw [e, nth_inv, inv_length]
    have lt : ∀ m, 1 ≤ m → m < n → ¬ (w = nth o m ∨ w = nth (inv o) m) ∧ (nth o m).length ≤ w.length := fun m hm hmn => by
      constructor
      · intro h
        have := (hit m hm h).2
        rw [kq] at this
        have := Nat.eq_of_mul_eq_mul_left hq this
        omega
      · rw [lenW]
        exact Nat.le_of_lt (nth_len b ho hm hmn)
    have nle : n ≤ w.length := by
      rw [lenW]
      exact nth_many b ho hn
    rw [xl_some Wh lt w.length 0 (by omega) (by omega)]
    have kd : k / q = n := by rw [kq]; exact Nat.mul_div_cancel_left n hq
    have X : xr r s k q = some (if r = s then (n : Int) else 0 - (n : Int)) := by
      unfold xr
      rw [if_neg (by
        rintro (z | z | z)
        · omega
        · exact z c1
        · exact z c2), kd]
    rw [X]
    rcases W with ⟨e, e2⟩ | ⟨e, e2⟩
    · rw [if_pos e, if_pos e2]
    · have x : ¬ w = nth o n := fun z => by
        have := near n hn
        rw [← z] at this
        exact nss ((rt_uniq a this).1.symm.trans e2)
      rw [if_neg x, if_neg (fun z => nss (z.symm.trans e2))]
  · rw [xl_none w.length 0 fun n hn h => by
      obtain ⟨x, y⟩ := hit n hn h
      exact c ⟨x, by rw [y]; exact Nat.mul_mod_right q n⟩]
    unfold xr
    rw [if_pos]
    by_cases x : r = s ∨ r = inv s
    · exact .inr (.inr fun y => c ⟨x, y⟩)
    · exact .inr (.inl x)
/-! ### neighbours taken out -/
/-- where a letter stands ahead of its undoing -/
theorem red_out {u v : List Int} {a b : Int} (h : a + b = 0) : red (u ++ a :: b :: v) = red (u ++ v) := by
  have : b = -a := by omega
  subst this
  refine red_of_eqv ?_
  have := ((eqv_refl u).cat (eqv_inv [a])).cat (eqv_refl v)
  simpa [inv] using this
end FG

set_option maxHeartbeats 4000000
namespace FG
/-! # Words that commute -/
/-- alike as words of the group -/
theorem eqv_inv_of {u v : List Int} (h : Eqv u v) : Eqv (inv u) (inv v) := by
  refine eqv_trans (v := inv u ++ (v ++ inv v)) ?_ ?_
  · have := (eqv_refl (inv u)).cat (eqv_symm (eqv_inv v))
    rw [List.append_nil] at this
    exact this
  · rw [← List.append_assoc]
    have : Eqv (inv u ++ v) [] := eqv_trans ((eqv_refl _).cat (eqv_symm h)) (eqv_inv' _)
    have := this.cat (eqv_refl (inv v))
    rw [List.nil_append] at this
    exact this
/-- how much of two reduced words goes when one is put behind the other -/
theorem cancel : ∀ (n : Nat) {u v : List Int}, u.length ≤ n → Red u → Red v → ∃ x t y, u = x ++ t ∧ v = inv t ++ y ∧ Red (x ++ y)
  | 0, u, v, hn, _, hv => ⟨[], [], v, List.length_eq_zero_iff.mp (by omega), rfl, hv⟩
  | n + 1, u, v, hn, hu, hv => by
    rcases List.eq_nil_or_concat u with z | ⟨u', a, z⟩
    · exact ⟨[], [], v, z, rfl, hv⟩
    · rw [List.concat_eq_append] at z
      subst z
      cases v with
      | nil => exact ⟨u' ++ [a], [], [], by simp, rfl, by rw [List.append_nil]; exact hu⟩
      | cons b v' =>
        by_cases k : a + b = 0
        · obtain ⟨x, t, y, h1, h2, h3⟩ := cancel n (u := u') (v := v') (by simp at hn; omega) hu.left hv.tail
          refine ⟨x, t ++ [a], y, by rw [h1]; simp, ?_, h3⟩
          rw [inv_append, h2]
          have : b = -a := by omega
          subst this
          rfl
        · refine ⟨u' ++ [a], [], b :: v', by simp, rfl, ?_⟩
          have := red_cat u' hu (t := b :: v') (fun c r q => by cases q; exact k) hv
          simpa using this
/-- what two reduced words make is what is left -/
theorem red_cancel {x t y : List Int} (h : Red (x ++ y)) : red ((x ++ t) ++ (inv t ++ y)) = x ++ y := by
  have e : Eqv ((x ++ t) ++ (inv t ++ y)) (x ++ y) := by
    have : (x ++ t) ++ (inv t ++ y) = x ++ ((t ++ inv t) ++ y) := by simp
    rw [this]
    exact (eqv_refl x).cat ((eqv_inv t).cat (eqv_refl y))
  rw [e.red, red_self h]
/-- a prefix of a power of a ring is a power and a piece -/
theorem pw_take (c : List Int) (hc : c ≠ []) : ∀ (n k : Nat), k ≤ n * c.length → ∃ m d e, c = d ++ e ∧ e ≠ [] ∧ (pw c n).take k = pw c m ++ d
  | 0, k, h => ⟨0, [], c, rfl, hc, by simp [pw]⟩
  | n + 1, k, h => by
    by_cases q : k < c.length
    · refine ⟨0, c.take k, c.drop k, (List.take_append_drop k c).symm, fun z => ?_, ?_⟩
      · have := congrArg List.length z
        rw [List.length_drop, List.length_nil] at this
        omega
      · show (c ++ pw c n).take k = [] ++ c.take k
        rw [List.take_append_of_le_length (by omega), List.nil_append]
    · obtain ⟨m, d, e, h1, h2, h3⟩ := pw_take c hc n (k - c.length) (by rw [Nat.succ_mul] at h; omega)
      refine ⟨m + 1, d, e, h1, h2, ?_⟩
      show (c ++ pw c n).take k = (c ++ pw c m) ++ d
      rw [List.append_assoc, ← h3]
      rw [List.take_append, List.take_of_length_le (by omega)]
/-- two rows that may be exchanged are rows of one turn: d c = c d -/
theorem turn_per {c d : List Int} (hc : c ≠ []) (hd : d ≠ []) (hl : d.length ≤ c.length) (h : d ++ c = c ++ d) : ∀ i, at_ c (i + d.length) = at_ c i := by
  have hp : 0 < c.length := List.length_pos_iff.mpr hc
  have dc : d = c.take d.length := by
    have := congrArg (List.take d.length) h
    rw [List.take_left, List.take_append_of_le_length hl] at this
    exact this
  have at_d : ∀ k, k < d.length → d[k]? = c[k]? := fun k hk => by
    rw [dc, List.getElem?_take_of_lt hk]
  -- for places within c
  have key : ∀ j, j < c.length → at_ c (j + d.length) = at_ c j := fun j hj => by
    have e := congrArg (fun l => l.getD (j + d.length) 0) h
    simp only [List.getD_eq_getElem?_getD] at e
    rw [List.getElem?_append_right (by omega), Nat.add_sub_cancel] at e
    unfold at_
    rw [Nat.mod_eq_of_lt hj]
    by_cases q : j + d.length < c.length
    · rw [List.getElem?_append_left q] at e
      rw [Nat.mod_eq_of_lt q, List.getD_eq_getElem?_getD, List.getD_eq_getElem?_getD, e]
    · rw [List.getElem?_append_right (by omega)] at e
      have hm : (j + d.length) % c.length = j + d.length - c.length := by
        rw [Nat.mod_eq_sub_mod (by omega), Nat.mod_eq_of_lt (by omega)]
      have hlt : j + d.length - c.length < d.length := by omega
      rw [hm, List.getD_eq_getElem?_getD, List.getD_eq_getElem?_getD, e]
      rw [at_d _ hlt]
  intro i
  have a1 : at_ c (i + d.length) = at_ c (i % c.length + d.length) := by
    unfold at_
    rw [Nat.mod_add_mod]
  have a2 : at_ c i = at_ c (i % c.length) := by
    unfold at_
    rw [Nat.mod_mod]
  rw [a1, a2, key _ (Nat.mod_lt _ hp)]
/-- a ring that is no power of a shorter one is exchanged with its own powers alone -/
theorem ring_comm {c s : List Int} (hc : Cyc c) (lp : IsLp c c.length) (hs : Red s) (h : red (c ++ s) = red (s ++ c)) : ∃ m, s = pw c m ∨ s = pw (inv c) m := by
  have hp : 0 < c.length := List.length_pos_iff.mpr hc.1
  -- s leads every power of c to itself
  obtain ⟨n, hn⟩ : ∃ n, n = 2 * s.length + 1 := ⟨_, rfl⟩
  have com : Eqv (c ++ s) (s ++ c) := eqv_of_red h
  have comn : ∀ n, Eqv (pw c n ++ s) (s ++ pw c n) := fun n => by
    induction n with
    | zero => simp only [pw, List.nil_append, List.append_nil]; exact eqv_refl _
    | succ n ih =>
      show Eqv ((c ++ pw c n) ++ s) (s ++ (c ++ pw c n))
      rw [List.append_assoc, ← List.append_assoc s]
      exact eqv_trans ((eqv_refl c).cat ih) (by rw [← List.append_assoc]; exact com.cat (eqv_refl _))
  have hR := cyc_pw hc n
  have nl : s.length < (pw c n).length := by
    rw [pw_length, hn]
    have : (2 * s.length + 1) * 1 ≤ (2 * s.length + 1) * c.length := Nat.mul_le_mul_left _ hp
    omega
  -- both sides, reduced
  obtain ⟨x, t, y, h1, h2, h3⟩ := cancel (pw c n).length (u := pw c n) (v := s) (Nat.le_refl _) hR hs
  obtain ⟨x', t', y', h1', h2', h3'⟩ := cancel s.length (u := s) (v := pw c n) (Nat.le_refl _) hs hR
  have E : x ++ y = x' ++ y' := by
    have e := (comn n).red
    rw [h1, h2, red_cancel h3] at e
    rw [← h1, ← h2, h1', h2', red_cancel h3'] at e
    exact e
  have lx : x.length + t.length = (pw c n).length := by rw [h1]; simp
  have ly : t.length + y.length = s.length := by rw [h2]; simp [inv_length]
  have lx' : x'.length + t'.length = s.length := by rw [h1']; simp
  have ly' : t'.length + y'.length = (pw c n).length := by rw [h2']; simp [inv_length]
  have lE := congrArg List.length E
  rw [List.length_append, List.length_append] at lE
  have tt : t.length = t'.length := by omega
  -- the end of c ^ n is t, its beginning is inv t'; s begins with inv t and ends with t'
  by_cases z : t = []
  · -- nothing goes: s is a beginning of a power of c
    have z' : t' = [] := List.length_eq_zero_iff.mp (by rw [← tt, z]; rfl)
    subst z z'
    have ex : x = pw c n := by rw [h1]; simp
    have ey : y = s := by rw [h2]; rfl
    have ex' : x' = s := by rw [h1']; simp
    have ey' : y' = pw c n := by rw [h2']; rfl
    rw [ex, ey, ex', ey'] at E
    have sp : s = (pw c n).take s.length := by
      have := congrArg (List.take s.length) E
      rw [List.take_append_of_le_length (by omega), List.take_left] at this
      exact this.symm
    obtain ⟨m, d, e, q1, q2, q3⟩ := pw_take c hc.1 n s.length (by rw [← pw_length]; omega)
    rw [← sp] at q3
    -- d may be exchanged with c
    have hdl : d.length < c.length := by
      have := List.length_pos_iff.mpr q2
      rw [q1, List.length_append]
      omega
    have cd : c ++ d = d ++ c := by
      have E2 : pw c (n + m) ++ d = pw c m ++ (d ++ pw c n) := by
        rw [pw_add, List.append_assoc, ← q3, E, q3, List.append_assoc]
      rw [Nat.add_comm n m, pw_add, List.append_assoc] at E2
      have E3 := List.append_cancel_left E2
      obtain ⟨n', rfl⟩ : ∃ k, n = k + 1 := ⟨n - 1, by omega⟩
      have E4 : c ++ (pw c n' ++ d) = (d ++ c) ++ pw c n' := by
        have : pw c (n' + 1) ++ d = d ++ (c ++ pw c n') := E3
        rw [List.append_assoc d, ← this]
        show c ++ (pw c n' ++ d) = (c ++ pw c n') ++ d
        rw [List.append_assoc]
      by_cases n0 : n' = 0
      · subst n0
        simpa [pw] using E4
      · obtain ⟨n'', rfl⟩ : ∃ k, n' = k + 1 := ⟨n' - 1, by omega⟩
        have t1 : (c ++ (pw c (n'' + 1) ++ d)).take (c.length + d.length) = c ++ d := by
          rw [List.take_append, List.take_of_length_le (by omega), Nat.add_sub_cancel_left]
          congr 1
          show ((c ++ pw c n'') ++ d).take d.length = d
          rw [List.append_assoc, List.take_append_of_le_length (by omega)]
          rw [q1]
          simp
        have t2 : ((d ++ c) ++ pw c (n'' + 1)).take (c.length + d.length) = d ++ c := by
          rw [List.take_append_of_le_length (by rw [List.length_append]; omega), List.take_of_length_le (by rw [List.length_append]; omega)]
        rw [← t1, ← t2, E4]
    by_cases d0 : d = []
    · refine ⟨m, .inl ?_⟩
      rw [q3, d0, List.append_nil]
    · exfalso
      have P := turn_per hc.1 d0 (Nat.le_of_lt hdl) cd.symm
      have P0 : ∀ i, at_ c (i + c.length) = at_ c i := fun i => by unfold at_; rw [Nat.add_mod_right]
      have g := at_gcd (d.length + c.length) d.length c.length (Nat.le_refl _) P P0
      have pg : Per c (Nat.gcd d.length c.length) := at_per hc.1 (Nat.gcd_dvd_right _ _) g
      have := lp.2 _ pg
      have h0 : 0 < d.length := List.length_pos_iff.mpr d0
      have := Nat.le_of_dvd h0 (Nat.gcd_dvd_left d.length c.length)
      omega
  · -- something goes: then s is the undoing of an end
    have z' : t' ≠ [] := fun w => z (List.length_eq_zero_iff.mp (by rw [tt, w]; rfl))
    by_cases y0 : y = []
    · -- s = inv t, t an end of c ^ n: inv s is a beginning of (inv c) ^ n undone: do it by inv c
      have st : s = inv t := by rw [h2, y0, List.append_nil]
      have ci : Cyc (inv c) := cyc_inv hc
      have et : pw (inv c) n = inv t ++ inv x := by rw [← inv_pw, h1, inv_append]
      obtain ⟨m, d, e, q1, q2, q3⟩ := pw_take (inv c) ci.1 n s.length (by rw [← pw_length, ← inv_pw, inv_length]; omega)
      have q4 : (pw (inv c) n).take s.length = s := by rw [et, ← st]; simp
      rw [q4] at q3
      have hdl : d.length < (inv c).length := by
        have := List.length_pos_iff.mpr q2
        rw [q1, List.length_append]
        omega
      -- s = (inv c) ^ m d; d commutes with c, too
      have dcom : Eqv (c ++ d) (d ++ c) := by
        have k1 : Eqv d (inv (pw (inv c) m) ++ s) := by
          rw [q3, ← List.append_assoc]
          have := (eqv_inv' (pw (inv c) m)).cat (eqv_refl d)
          rw [List.nil_append] at this
          exact eqv_symm this
        rw [inv_pw, inv_inv] at k1
        -- d ~ c ^ m s
        refine eqv_trans ((eqv_refl c).cat k1) (eqv_trans ?_ (eqv_symm (k1.cat (eqv_refl c))))
        rw [← List.append_assoc, show c ++ pw c m = pw c m ++ c from by rw [← pw_snoc]; rfl, List.append_assoc, List.append_assoc]
        exact (eqv_refl _).cat com
      by_cases d0 : d = []
      · refine ⟨m, .inr ?_⟩
        rw [q3, d0, List.append_nil]
      · exfalso
        -- inv c and d, both beginnings of inv c: no letters go
        have icd : Eqv (inv c ++ d) (d ++ inv c) := by
          -- from c d ~ d c
          have k2 : Eqv (inv c ++ (c ++ d) ++ inv c) (inv c ++ (d ++ c) ++ inv c) := ((eqv_refl _).cat dcom).cat (eqv_refl _)
          have l1 : Eqv (inv c ++ (c ++ d) ++ inv c) (d ++ inv c) := by
            have : inv c ++ (c ++ d) ++ inv c = (inv c ++ c) ++ (d ++ inv c) := by simp
            rw [this]
            exact (eqv_inv' c).cat (eqv_refl _)
          have l2 : Eqv (inv c ++ (d ++ c) ++ inv c) (inv c ++ d) := by
            have : inv c ++ (d ++ c) ++ inv c = (inv c ++ d) ++ (c ++ inv c) := by simp
            rw [this]
            have := (eqv_refl (inv c ++ d)).cat (eqv_inv c)
            rw [List.append_nil] at this
            exact this
          exact eqv_trans (eqv_symm l2) (eqv_trans (eqv_symm k2) l1)
        have r1 : Red (inv c ++ d) := by
          have := ci.2
          rw [show inv c ++ inv c = (inv c ++ d) ++ e from by rw [List.append_assoc, ← q1]] at this
          exact this.left
        have e1 : inv c ++ d = red (d ++ inv c) := by rw [← icd.red, red_self r1]
        have l := red_len (d ++ inv c)
        have full : red (d ++ inv c) = d ++ inv c := by
          -- as long as the row itself: nothing went
          obtain ⟨a, b, f, g1, g2, g3⟩ := cancel d.length (u := d) (v := inv c) (Nat.le_refl _) (by
            have := ci.2.left
            rw [q1] at this
            exact this.left) ci.2.left
          have g4 : red (d ++ inv c) = a ++ f := by rw [g1, g2]; exact red_cancel g3
          have := congrArg List.length e1
          rw [g4, List.length_append, List.length_append] at this
          have v1 := congrArg List.length g1
          have v2 := congrArg List.length g2
          rw [List.length_append] at v1 v2
          rw [inv_length b] at v2
          have b0 : b = [] := List.length_eq_zero_iff.mp (by omega)
          rw [g4, g1, g2, b0]
          simp [inv]
        rw [full] at e1
        have P := turn_per ci.1 d0 (Nat.le_of_lt hdl) e1.symm
        have P0 : ∀ i, at_ (inv c) (i + (inv c).length) = at_ (inv c) i := fun i => by unfold at_; rw [Nat.add_mod_right]
        have g := at_gcd (d.length + (inv c).length) d.length (inv c).length (Nat.le_refl _) P P0
        have pg : Per (inv c) (Nat.gcd d.length (inv c).length) := at_per ci.1 (Nat.gcd_dvd_right _ _) g
        have lpi := lp_inv lp
        have := lpi.2 _ pg
        have h0 : 0 < d.length := List.length_pos_iff.mpr d0
        have := Nat.le_of_dvd h0 (Nat.gcd_dvd_left d.length (inv c).length)
        rw [inv_length] at hdl
        omega
    · exfalso
      -- s = inv t y, y not empty; s = x' t'. the first letter of s undoes the last one of c; and x' is not empty
      obtain ⟨t0, b, tb⟩ : ∃ t0 b, t = t0 ++ [b] := by
        rcases List.eq_nil_or_concat t with q | ⟨m, b, q⟩
        · exact absurd q z
        · exact ⟨m, b, by rw [q, List.concat_eq_append]⟩
      have s1 : s = -b :: (inv t0 ++ y) := by rw [h2, tb, inv_append]; rfl
      have ly0 : 0 < y.length := List.length_pos_iff.mpr y0
      have x1 : ∃ x0, x' = -b :: x0 := by
        cases x' with
        | nil => simp at lx'; omega
        | cons α x0 =>
          rw [s1] at h1'
          injection h1' with q _
          exact ⟨x0, by rw [q]⟩
      obtain ⟨x0, hx0⟩ := x1
      have x2 : ∃ x3, x = -b :: x3 := by
        cases x with
        | nil => simp at lx; omega
        | cons α x3 =>
          rw [hx0] at E
          injection E with q _
          exact ⟨x3, by rw [q]⟩
      obtain ⟨x3, hx3⟩ := x2
      have cc := cyc_pw' hc (n := n) (by omega)
      rw [h1, tb, hx3] at cc
      have e : -b :: x3 ++ (t0 ++ [b]) = -b :: (x3 ++ t0) ++ [-(-b)] := by simp
      rw [e] at cc
      exact cyc_ends cc
/-- two words that may be exchanged have one root, up to its undoing -/
theorem comm_root {u v r s : List Int} {k q : Nat} (a : Rt u r k) (b : Rt v s q) (hu : Red u) (hv : Red v) (hz : ∀ i ∈ u, i ≠ 0) (hz2 : ∀ i ∈ v, i ≠ 0) (h : red (u ++ v) = red (v ++ u)) : r = s ∨ r = inv s := by
  have E : Eqv (u ++ v) (v ++ u) := eqv_of_red h
  -- u led by v is u
  have led1 : ∀ {x y : List Int}, Eqv (x ++ y) (y ++ x) → Red x → ledr x y = x := fun {x y} e hx => by
    unfold ledr
    have : Eqv (inv y ++ x ++ y) x := by
      rw [List.append_assoc]
      refine eqv_trans ((eqv_refl _).cat e) ?_
      rw [← List.append_assoc]
      have := (eqv_inv' y).cat (eqv_refl x)
      rw [List.nil_append] at this
      exact this
    rw [this.red, red_self hx]
  have back : ∀ {x y : List Int}, ledr x y = x → Red x → Eqv (x ++ y) (y ++ x) := fun {x y} e hx => by
    have h1 := eqv_ledr x y
    rw [e] at h1
    -- x ~ inv y x y
    have h2 : Eqv (y ++ x) (y ++ (inv y ++ x ++ y)) := (eqv_refl y).cat h1
    have h3 : Eqv (y ++ (inv y ++ x ++ y)) (x ++ y) := by
      have : y ++ (inv y ++ x ++ y) = (y ++ inv y) ++ (x ++ y) := by simp
      rw [this]
      have := (eqv_inv y).cat (eqv_refl (x ++ y))
      rw [List.nil_append] at this
      exact this
    exact eqv_symm (eqv_trans h2 h3)
  obtain ⟨rr, Rr, er⟩ := rt_root a hu
  obtain ⟨rs, Rs, es⟩ := rt_root b hv
  have rz : ∀ {w r : List Int} {k : Nat}, Rt w r k → (∀ i ∈ w, i ≠ 0) → ∀ i ∈ r, i ≠ 0 := fun {w r k} a hz i hi => by
    obtain ⟨h, c, l, k, _, rfl, _⟩ := a
    refine hz i ?_
    rw [k.1]
    rcases List.mem_append.mp hi with hi | hi
    · rcases List.mem_append.mp hi with hi | hi
      · simp [hi]
      · simp [List.mem_of_mem_take hi]
    · simp [hi]
  have rzr := rz a hz
  have rzs := rz b hz2
  -- r may be exchanged with v, then with s
  have c1 : Eqv (r ++ v) (v ++ r) := by
    have l := rt_led (g := v) a hu hz hz2
    rw [led1 E hu] at l
    exact back (rt_uniq l a).1 rr
  have c2 : Eqv (s ++ r) (r ++ s) := by
    have l := rt_led (g := r) b hv hz2 rzr
    rw [led1 (eqv_symm c1) hv] at l
    exact back (rt_uniq l b).1 rs
  -- r = hd c undone hd, c a ring
  obtain ⟨hd, c, l, g, p, er2, en⟩ := Rr
  have cl : c.length / l * l = c.length := per_dvd p.1
  rw [← en, Nat.one_mul] at cl
  have cp : IsLp c c.length := by rw [← cl]; exact p
  have cr : Red c := g.2.2.left
  -- both led by hd
  obtain ⟨s', hs'⟩ : ∃ s', s' = ledr s hd := ⟨_, rfl⟩
  have hdz : ∀ i ∈ hd, i ≠ 0 := fun i hi => rzr i (by rw [g.1]; simp [hi])
  have rc : ledr r hd = c := by
    unfold ledr
    have : Eqv (inv hd ++ r ++ hd) c := by
      rw [g.1]
      have e : inv hd ++ (hd ++ c ++ inv hd) ++ hd = (inv hd ++ hd) ++ c ++ (inv hd ++ hd) := by simp
      rw [e]
      have := ((eqv_inv' hd).cat (eqv_refl c)).cat (eqv_inv' hd)
      simpa using this
    rw [this.red, red_self cr]
  have lcat : ∀ x y : List Int, Eqv (ledr x hd ++ ledr y hd) (inv hd ++ (x ++ y) ++ hd) := fun x y => by
    refine eqv_trans ((eqv_ledr x hd).cat (eqv_ledr y hd)) ?_
    have e : (inv hd ++ x ++ hd) ++ (inv hd ++ y ++ hd) = (inv hd ++ x) ++ ((hd ++ inv hd) ++ (y ++ hd)) := by simp
    have e2 : inv hd ++ (x ++ y) ++ hd = (inv hd ++ x) ++ ([] ++ (y ++ hd)) := by simp
    rw [e, e2]
    exact (eqv_refl _).cat ((eqv_inv hd).cat (eqv_refl _))
  have cs : red (c ++ s') = red (s' ++ c) := by
    rw [hs', ← rc]
    refine red_of_eqv (eqv_trans (lcat r s) (eqv_trans ?_ (eqv_symm (lcat s r))))
    exact ((eqv_refl _).cat (eqv_symm c2)).cat (eqv_refl _)
  obtain ⟨m, hm⟩ := ring_comm g.2 cp (by rw [hs']; exact red_red _) cs
  -- s' is its own root
  have S : Rt s' s' 1 := by
    have := rt_led (g := hd) Rs rs rzs hdz
    rw [← hs'] at this
    exact this
  have C : Rt c c 1 := by
    refine ⟨[], c, c.length, ⟨by simp [inv], g.2⟩, cp, by simp [inv], ?_⟩
    rw [Nat.div_self (List.length_pos_iff.mpr g.2.1)]
  have fin : s' = c ∨ s' = inv c := by
    have m0 : 1 ≤ m := by
      refine Nat.pos_of_ne_zero fun z => rt_ne S ?_
      rcases hm with e | e <;> rw [e, z] <;> rfl
    rcases hm with e | e
    · left
      have := rt_pw C cr m0
      rw [red_self (cyc_pw g.2 m), ← e] at this
      exact (rt_uniq S this).1
    · right
      have := rt_pw (rt_inv C) (red_inv cr) m0
      rw [red_self (cyc_pw (cyc_inv g.2) m), ← e] at this
      exact (rt_uniq S this).1
  -- led back
  have sb : s = ledr s' (inv hd) := by rw [hs', ledr_back, red_self rs]
  have rb : r = ledr c (inv hd) := by rw [← rc, ledr_back, red_self rr]
  rcases fin with e | e
  · left
    rw [sb, rb, e]
  · right
    rw [sb, rb, e]
    unfold ledr
    have : Eqv (inv (red (inv (inv hd) ++ inv c ++ inv hd))) (inv (inv hd) ++ c ++ inv hd) := by
      refine eqv_trans (eqv_inv_of (eqv_symm (eqv_red _))) ?_
      rw [inv_append, inv_append, inv_inv, inv_inv, List.append_assoc]
      exact eqv_refl _
    rw [← this.red, red_self (red_inv (red_red _))]
end FG

set_option maxHeartbeats 4000000
namespace FG
/-! # Powers to any whole number -/
/-- s to the e -/
def zq (s : List Int) (e : Int) : List Int := pw (if 0 < e then s else inv s) e.natAbs
def zp (s : List Int) (e : Int) : List Int := red (zq s e)
theorem zq_nat (s : List Int) (n : Nat) : Eqv (zq s (n : Int)) (pw s n) := by
  cases n with
  | zero => exact eqv_refl _
  | succ n =>
    unfold zq
    rw [if_pos (by omega)]
    exact eqv_refl _
theorem zq_neg (s : List Int) (n : Nat) : Eqv (zq s (0 - (n : Int))) (pw (inv s) n) := by
  unfold zq
  rw [if_neg (by omega), show (0 - (n : Int)).natAbs = n by omega]
  exact eqv_refl _
theorem pw_back (s : List Int) : ∀ (n m : Nat), Eqv (pw s (m + n) ++ pw (inv s) n) (pw s m)
  | 0, m => by rw [Nat.add_zero]; simp only [pw, List.append_nil]; exact eqv_refl _
  | n + 1, m => by
    have ih := pw_back s n m
    have e : pw s (m + (n + 1)) ++ pw (inv s) (n + 1) = pw s (m + n) ++ ((s ++ inv s) ++ pw (inv s) n) := by
      rw [← Nat.add_assoc, pw_snoc]
      show (pw s (m + n) ++ s) ++ (inv s ++ pw (inv s) n) = _
      simp
    rw [e]
    refine eqv_trans ((eqv_refl _).cat ((eqv_inv s).cat (eqv_refl _))) ?_
    rw [List.nil_append]
    exact ih
theorem pw_mix (s : List Int) (m n : Nat) : Eqv (pw s m ++ pw (inv s) n) (zq s ((m : Int) - (n : Int))) := by
  by_cases h : n ≤ m
  · obtain ⟨k, rfl⟩ : ∃ k, m = k + n := ⟨m - n, by omega⟩
    have e : ((k + n : Nat) : Int) - (n : Int) = (k : Int) := by omega
    rw [e]
    exact eqv_trans (pw_back s n k) (eqv_symm (zq_nat s k))
  · obtain ⟨k, rfl⟩ : ∃ k, n = m + k := ⟨n - m, by omega⟩
    have e : (m : Int) - ((m + k : Nat) : Int) = 0 - (k : Int) := by omega
    rw [e]
    refine eqv_trans ?_ (eqv_symm (zq_neg s k))
    rw [pw_add, ← List.append_assoc]
    have := pw_back s m 0
    rw [Nat.zero_add] at this
    have := this.cat (eqv_refl (pw (inv s) k))
    exact this
theorem pw_mix' (s : List Int) (m n : Nat) : Eqv (pw (inv s) n ++ pw s m) (zq s ((m : Int) - (n : Int))) := by
  have h := pw_mix (inv s) n m
  rw [inv_inv] at h
  refine eqv_trans h ?_
  by_cases z : (n : Int) - (m : Int) = 0
  · have : (m : Int) - (n : Int) = 0 := by omega
    rw [z, this]
    exact eqv_refl _
  · unfold zq
    rw [inv_inv, show ((n : Int) - (m : Int)).natAbs = ((m : Int) - (n : Int)).natAbs by omega]
    by_cases q : 0 < (n : Int) - (m : Int)
    · rw [if_pos q, if_neg (by omega)]
      exact eqv_refl _
    · rw [if_neg q, if_pos (by omega)]
      exact eqv_refl _
theorem zq_add (s : List Int) (a b : Int) : Eqv (zq s a ++ zq s b) (zq s (a + b)) := by
  by_cases ha : 0 ≤ a
  · obtain ⟨m, rfl⟩ : ∃ m : Nat, a = (m : Int) := ⟨a.toNat, by omega⟩
    by_cases hb : 0 ≤ b
    · obtain ⟨n, rfl⟩ : ∃ n : Nat, b = (n : Int) := ⟨b.toNat, by omega⟩
      refine eqv_trans ((zq_nat s m).cat (zq_nat s n)) ?_
      rw [← pw_add, show (m : Int) + (n : Int) = ((m + n : Nat) : Int) by omega]
      exact eqv_symm (zq_nat s _)
    · obtain ⟨n, rfl⟩ : ∃ n : Nat, b = 0 - (n : Int) := ⟨b.natAbs, by omega⟩
      refine eqv_trans ((zq_nat s m).cat (zq_neg s n)) ?_
      rw [show (m : Int) + (0 - (n : Int)) = (m : Int) - (n : Int) by omega]
      exact pw_mix s m n
  · obtain ⟨m, rfl⟩ : ∃ m : Nat, a = 0 - (m : Int) := ⟨a.natAbs, by omega⟩
    by_cases hb : 0 ≤ b
    · obtain ⟨n, rfl⟩ : ∃ n : Nat, b = (n : Int) := ⟨b.toNat, by omega⟩
      refine eqv_trans ((zq_neg s m).cat (zq_nat s n)) ?_
      rw [show (0 - (m : Int)) + (n : Int) = (n : Int) - (m : Int) by omega]
      exact pw_mix' s n m
    · obtain ⟨n, rfl⟩ : ∃ n : Nat, b = 0 - (n : Int) := ⟨b.natAbs, by omega⟩
      refine eqv_trans ((zq_neg s m).cat (zq_neg s n)) ?_
      rw [← pw_add, show (0 - (m : Int)) + (0 - (n : Int)) = 0 - ((m + n : Nat) : Int) by omega]
      exact eqv_symm (zq_neg s _)
theorem zp_add (s : List Int) (a b : Int) : red (zp s a ++ zp s b) = zp s (a + b) :=
  red_of_eqv (eqv_trans ((eqv_symm (eqv_red _)).cat (eqv_symm (eqv_red _))) (zq_add s a b))
theorem zp_comm (s : List Int) (a b : Int) : red (zp s a ++ zp s b) = red (zp s b ++ zp s a) := by
  rw [zp_add, zp_add, Int.add_comm]
/-- how a word stands to a word s: the exponent, none without one -/
def Ex (w s : List Int) (o : Option Int) : Prop := (w = [] ∧ o = some 0) ∨ ∃ r k, Rt w r k ∧ o = xr r s k 1
theorem xr_one (r s : List Int) (k : Nat) : xr r s k 1 = if r = s ∨ r = inv s then some (if r = s then (k : Int) else 0 - (k : Int)) else none := by
  unfold xr
  by_cases h : r = s ∨ r = inv s
  · rw [if_neg (by
      rintro (z | z | z)
      · omega
      · exact z h
      · exact z (Nat.mod_one k)), if_pos h, Nat.div_one]
  · rw [if_pos (.inr (.inl h)), if_neg h]
theorem ex_uniq {w s : List Int} {o o' : Option Int} (a : Ex w s o) (b : Ex w s o') : o = o' := by
  rcases a with ⟨a1, a2⟩ | ⟨r, k, a1, a2⟩
  · rcases b with ⟨b1, b2⟩ | ⟨r', k', b1, b2⟩
    · rw [a2, b2]
    · exact absurd a1 (rt_ne b1)
  · rcases b with ⟨b1, b2⟩ | ⟨r', k', b1, b2⟩
    · exact absurd b1 (rt_ne a1)
    · obtain ⟨rfl, rfl⟩ := rt_uniq a1 b1
      rw [a2, b2]
/-- an exponent tells the word -/
theorem ex_pow {w s : List Int} {e : Int} (hw : Red w) (h : Ex w s (some e)) : w = zp s e := by
  rcases h with ⟨h1, h2⟩ | ⟨r, k, h1, h2⟩
  · cases h2
    rw [h1]
    rfl
  · rw [xr_one] at h2
    have hk := rt_pos h1
    have hr := (rt_root h1 hw).2.2
    split at h2
    · rename_i c
      by_cases z : r = s
      · rw [if_pos z] at h2
        injection h2 with h2
        rw [h2]
        unfold zp
        rw [(zq_nat s k).red, ← z]
        exact hr.symm
      · rw [if_neg z] at h2
        injection h2 with h2
        rw [h2]
        unfold zp
        rw [(zq_neg s k).red, ← c.resolve_left z]
        exact hr.symm
    · cases h2
/-- the powers of a root have their exponents -/
theorem ex_zp {s : List Int} (hs : Rt s s 1) (rs : Red s) (hz : ∀ i ∈ s, i ≠ 0) (e : Int) : Ex (zp s e) s (some e) := by
  have nss : s ≠ inv s := fun z => rt_ne hs (inv_self s.length (Nat.le_refl _) rs hz z)
  by_cases z : e = 0
  · left
    subst z
    exact ⟨rfl, rfl⟩
  · right
    by_cases q : 0 < e
    · obtain ⟨n, rfl⟩ : ∃ n : Nat, e = (n : Int) := ⟨e.toNat, by omega⟩
      have R := rt_pw hs rs (m := n) (by omega)
      refine ⟨s, n, ?_, ?_⟩
      · unfold zp
        rw [(zq_nat s n).red]
        rw [Nat.one_mul] at R
        exact R
      · rw [xr_one, if_pos (.inl rfl), if_pos rfl]
    · obtain ⟨n, rfl⟩ : ∃ n : Nat, e = 0 - (n : Int) := ⟨e.natAbs, by omega⟩
      have R := rt_pw (rt_inv hs) (red_inv rs) (m := n) (by omega)
      refine ⟨inv s, n, ?_, ?_⟩
      · unfold zp
        rw [(zq_neg s n).red]
        rw [Nat.one_mul] at R
        exact R
      · rw [xr_one, if_pos (.inr rfl), if_neg (fun w => nss w.symm)]
/-- two words that may be exchanged: both exponents are there, by a root of one of them -/
theorem comm_ex {u v s : List Int} {o : Option Int} (hu : Red u) (hv : Red v) (hz : ∀ i ∈ u, i ≠ 0) (hz2 : ∀ i ∈ v, i ≠ 0) {r : List Int} {k : Nat} (a : Rt u r k) (hs : s = r ∨ s = inv r) (h : red (u ++ v) = red (v ++ u)) (b : Ex v s o) : ∃ e, o = some e := by
  rcases b with ⟨b1, b2⟩ | ⟨r', k', b1, b2⟩
  · exact ⟨0, b2⟩
  · have c := comm_root a b1 hu hv hz hz2 h
    rw [xr_one] at b2
    have : r' = s ∨ r' = inv s := by
      rcases hs with e | e
      · rcases c with c | c
        · left; rw [e, c]
        · right; rw [e, c, inv_inv]
      · rcases c with c | c
        · right; rw [e, inv_inv, c]
        · left; rw [e, c, inv_inv]
    rw [if_pos this] at b2
    exact ⟨_, b2⟩
/-- powers of one word may be exchanged -/
theorem ex_comm {u v s : List Int} {e f : Int} (hu : Red u) (hv : Red v) (a : Ex u s (some e)) (b : Ex v s (some f)) : red (u ++ v) = red (v ++ u) := by
  rw [ex_pow hu a, ex_pow hv b]
  exact zp_comm s e f
theorem ex_any {w s : List Int} (hw : Red w) (hz : ∀ i ∈ w, i ≠ 0) : ∃ o, Ex w s o := by
  by_cases n : w = []
  · exact ⟨_, .inl ⟨n, rfl⟩⟩
  · obtain ⟨r, k, R⟩ := rt_ex n hw hz
    exact ⟨_, .inr ⟨r, k, R, rfl⟩⟩
theorem ex_own {u r s : List Int} {k : Nat} (a : Rt u r k) (hs : s = r ∨ s = inv r) : ∃ e, Ex u s (some e) := by
  have h : r = s ∨ r = inv s := by
    rcases hs with e | e
    · exact .inl e.symm
    · exact .inr (by rw [e, inv_inv])
  refine ⟨if r = s then (k : Int) else 0 - (k : Int), .inr ⟨r, k, a, ?_⟩⟩
  rw [xr_one, if_pos h]
end FG

set_option maxHeartbeats 4000000
namespace FG
/-! # Words led to one another: the cores are turns -/
theorem stk_ci {u s : List Int} (hs : Red s) : stk (inv u) (stk u s) = s := by
  rw [← stk_append]
  exact eqv_inv u s hs
theorem stk_ic {u s : List Int} (hs : Red s) : stk u (stk (inv u) s) = s := by
  rw [← stk_append]
  exact eqv_inv' u s hs
theorem stk_r {u s : List Int} (hs : Red s) : stk (red u) s = stk u s := (eqv_red u s hs).symm
theorem ledr_ledr (w g k : List Int) : ledr (ledr w g) k = ledr w (g ++ k) := red_of_eqv fun s hs => by
  unfold ledr
  simp (config := { maxDischargeDepth := 20 }) only [stk_append, inv_append, stk_r, stk_red, hs]
theorem ledr_red (w g : List Int) : ledr w (red g) = ledr w g := red_of_eqv fun s hs => by
  have e : ∀ t, Red t → stk (inv (red g)) t = stk (inv g) t := fun t ht => eqv_symm (eqv_inv_of (eqv_red g)) t ht
  simp (config := { maxDischargeDepth := 20 }) only [stk_append, stk_r, stk_red, hs, e]
theorem ledr_nil {w : List Int} (hw : Red w) : ledr w [] = w := by
  unfold ledr
  simp [inv, red_self hw]
/-- c' goes round c -/
def Rot (c c' : List Int) : Prop := ∃ a b, c = a ++ b ∧ c' = b ++ a
theorem Rot.refl (c : List Int) : Rot c c := ⟨[], c, rfl, (List.append_nil c).symm⟩
theorem Rot.symm {c d : List Int} (h : Rot c d) : Rot d c := let ⟨a, b, e, f⟩ := h; ⟨b, a, f, e⟩
theorem Rot.len {c d : List Int} (h : Rot c d) : c.length = d.length := by
  obtain ⟨a, b, rfl, rfl⟩ := h
  simp only [List.length_append]
  omega
theorem Rot.trans {c d e : List Int} (h : Rot c d) (k : Rot d e) : Rot c e := by
  obtain ⟨a, b, rfl, rfl⟩ := h
  obtain ⟨p, q, e1, rfl⟩ := k
  rcases List.append_eq_append_iff.mp e1 with ⟨t, rfl, rfl⟩ | ⟨t, rfl, rfl⟩
  · exact ⟨t, q ++ b, by simp, by simp⟩
  · exact ⟨a ++ p, t, by simp, by simp⟩
theorem Rot.cyc {c d : List Int} (h : Rot c d) (k : Cyc c) : Cyc d := by
  obtain ⟨a, b, rfl, rfl⟩ := h
  refine ⟨fun z => k.1 (by
    obtain ⟨z1, z2⟩ := List.append_eq_nil_iff.mp z
    rw [z1, z2]; rfl), ?_⟩
  have h3 := cyc_pw k 3
  have e : pw (a ++ b) 3 = a ++ ((b ++ a) ++ (b ++ a) ++ b) := by simp [pw]
  rw [e] at h3
  exact h3.right.left
def rotB (c d : List Int) : Bool := decide (c.length = d.length) && (decide (c = []) || (List.range c.length).any fun k => decide (c.drop k ++ c.take k = d))
theorem rotB_iff {c d : List Int} : rotB c d = true ↔ Rot c d := by
  unfold rotB
  simp only [Bool.and_eq_true, Bool.or_eq_true, decide_eq_true_eq, List.any_eq_true, List.mem_range]
  constructor
  · rintro ⟨hl, rfl | ⟨k, hk, rfl⟩⟩
    · have : d = [] := List.eq_nil_of_length_eq_zero hl.symm
      subst this
      exact .refl _
    · exact ⟨c.take k, c.drop k, (List.take_append_drop k c).symm, rfl⟩
  · intro h
    refine ⟨h.len, ?_⟩
    by_cases hc : c = []
    · exact .inl hc
    refine .inr ?_
    obtain ⟨a, b, rfl, rfl⟩ := h
    by_cases hb : b = []
    · subst hb
      refine ⟨0, List.length_pos_iff.mpr hc, by simp⟩
    · refine ⟨a.length, ?_, by simp⟩
      have := List.length_pos_iff.mpr hb
      simp only [List.length_append]
      omega
theorem rotB_comm (c d : List Int) : rotB c d = rotB d c := by
  cases h : rotB c d with
  | true => exact (rotB_iff.mpr (rotB_iff.mp h).symm).symm
  | false =>
    cases k : rotB d c with
    | true => rw [rotB_iff.mpr (rotB_iff.mp k).symm] at h; cases h
    | false => rfl
/-- head and core, of the empty word, too -/
def Rgo (w h c : List Int) : Prop := (w = [] ∧ h = [] ∧ c = []) ∨ Rg w h c
theorem rgo_ex {w : List Int} (hr : Red w) (hz : ∀ i ∈ w, i ≠ 0) : ∃ h c, Rgo w h c := by
  by_cases z : w = []
  · exact ⟨[], [], .inl ⟨z, rfl, rfl⟩⟩
  · obtain ⟨h, c, r⟩ := rg_ex w.length (Nat.le_refl _) z hr hz
    exact ⟨h, c, .inr r⟩
theorem Rgo.eq {w h c : List Int} (r : Rgo w h c) : w = h ++ c ++ inv h := by
  rcases r with ⟨rfl, rfl, rfl⟩ | ⟨e, _⟩
  · rfl
  · exact e
theorem rg_ne {w h c : List Int} (r : Rg w h c) : w ≠ [] := fun z => by
  have e := r.1
  rw [z] at e
  have := r.2.1
  exact this (List.append_eq_nil_iff.mp (List.append_eq_nil_iff.mp e.symm).1).2
theorem Rgo.uniq {w h c h' c' : List Int} (r : Rgo w h c) (r' : Rgo w h' c') : h = h' ∧ c = c' := by
  rcases r with ⟨rfl, rfl, rfl⟩ | r
  · rcases r' with ⟨_, rfl, rfl⟩ | r'
    · exact ⟨rfl, rfl⟩
    · exact absurd rfl (rg_ne r')
  · rcases r' with ⟨rfl, _, _⟩ | r'
    · exact absurd rfl (rg_ne r)
    · exact rg_uniq r r'
/-- led by one letter -/
theorem rg_step1 {w h c : List Int} {x : Int} (r : Rg w h c) (hw : Red w) (hx : x ≠ 0) : ∃ h' c', Rg (ledr w [x]) h' c' ∧ Rot c c' := by
  obtain ⟨e, k⟩ := r
  have hl : ledr w [x] = red (-x :: (w ++ [x])) := by unfold ledr; simp [inv]
  cases h with
  | cons y t =>
    have ew : w = y :: ((t ++ c ++ inv t) ++ [-y]) := by rw [e, inv_cons]; simp
    by_cases hy : y = x
    · subst hy
      have hm : Red (t ++ c ++ inv t) := by
        rw [ew] at hw
        exact hw.tail.left
      have : ledr w [y] = t ++ c ++ inv t := by
        rw [hl, ew]
        refine (red_of_eqv (v := t ++ c ++ inv t) fun s hs => ?_).trans (red_self hm)
        have e2 : -y :: (y :: ((t ++ c ++ inv t) ++ [-y]) ++ [y]) = inv [y] ++ ([y] ++ ((t ++ c ++ inv t) ++ (inv [y] ++ [y]))) := by simp [inv]
        rw [e2, stk_append (inv [y]), stk_append [y], stk_ic hs, stk_append (t ++ c ++ inv t), stk_append (inv [y]), stk_ic (stk_red _ hs)]
      exact ⟨t, c, ⟨this, k⟩, .refl c⟩
    · have hr : Red (-x :: (w ++ [x])) := by
        rw [ew] at hw ⊢
        refine ⟨fun z => hy (by omega), ?_⟩
        have : (y :: ((t ++ c ++ inv t) ++ [-y])) ++ [x] = (y :: (t ++ c ++ inv t)) ++ (-y :: [x]) := by simp
        show Red ((y :: ((t ++ c ++ inv t) ++ [-y])) ++ [x])
        rw [this]
        refine red_cat (y :: (t ++ c ++ inv t)) (by simpa using hw) (fun c r er => ?_) trivial
        cases er
        intro z
        exact hy (by omega)
      refine ⟨-x :: y :: t, c, ⟨?_, k⟩, .refl c⟩
      rw [hl, red_self hr, ew]
      simp [inv]
  | nil =>
    have ew : w = c := by rw [e]; simp [inv]
    subst ew
    obtain ⟨y, t, rfl⟩ : ∃ y t, w = y :: t := by
      cases w with
      | nil => exact absurd rfl k.1
      | cons y t => exact ⟨y, t, rfl⟩
    by_cases hy : y = x
    · subst hy
      have rot : Rot (y :: t) (t ++ [y]) := ⟨[y], t, rfl, rfl⟩
      have kc := rot.cyc k
      have : ledr (y :: t) [y] = t ++ [y] := by
        rw [hl]
        refine (red_of_eqv (v := t ++ [y]) fun s hs => ?_).trans (red_self kc.2.left)
        have e2 : -y :: (y :: t ++ [y]) = inv [y] ++ ([y] ++ (t ++ [y])) := by simp [inv]
        rw [e2, stk_append (inv [y]), stk_append [y], stk_ic hs]
      exact ⟨[], t ++ [y], ⟨by rw [this]; simp [inv], kc⟩, rot⟩
    · obtain ⟨u, z, eu⟩ : ∃ u z, y :: t = u ++ [z] := ⟨(y :: t).dropLast, (y :: t).getLast (by simp), (List.dropLast_concat_getLast (by simp)).symm⟩
      by_cases hz : z = -x
      · subst hz
        have rot : Rot (y :: t) (-x :: u) := ⟨u, [-x], eu, rfl⟩
        have kc := rot.cyc k
        have : ledr (y :: t) [x] = -x :: u := by
          rw [hl]
          refine (red_of_eqv (v := -x :: u) fun s hs => ?_).trans (red_self kc.2.left)
          have e2 : -x :: (y :: t ++ [x]) = (-x :: u) ++ (inv [x] ++ [x]) := by rw [eu]; simp [inv]
          rw [e2, stk_append (-x :: u), stk_append (inv [x]), stk_ic (stk_red _ hs)]
        exact ⟨[], -x :: u, ⟨by rw [this]; simp [inv], kc⟩, rot⟩
      · have hr : Red (-x :: (y :: t ++ [x])) := by
          refine ⟨fun q => hy (by omega), ?_⟩
          have e3 : y :: t ++ [x] = u ++ (z :: [x]) := by rw [eu]; simp
          rw [show y :: t ++ [x] = y :: (t ++ [x]) from rfl] at e3
          show Red (y :: (t ++ [x]))
          rw [e3]
          refine red_cat u (by rw [← eu]; exact hw) (fun c r er => ?_) trivial
          cases er
          intro q
          exact hz (by omega)
        exact ⟨[-x], y :: t, ⟨by rw [hl, red_self hr]; simp [inv], k⟩, .refl _⟩
theorem rg_led : ∀ (g : List Int) {w h c : List Int}, Rg w h c → Red w → (∀ i ∈ g, i ≠ 0) → ∃ h' c', Rg (ledr w g) h' c' ∧ Rot c c'
  | [], w, h, c, r, hw, _ => ⟨h, c, by rw [ledr_nil hw]; exact r, .refl c⟩
  | x :: g, w, h, c, r, hw, hz => by
    obtain ⟨h1, c1, r1, q1⟩ := rg_step1 r hw (hz x (by simp))
    obtain ⟨h2, c2, r2, q2⟩ := rg_led g r1 (red_red _) fun i hi => hz i (by simp [hi])
    rw [ledr_ledr] at r2
    exact ⟨h2, c2, r2, q1.trans q2⟩
theorem ledr_empty (g : List Int) : ledr [] g = [] := by
  unfold ledr
  rw [List.append_nil]
  exact (eqv_inv' g).red
/-- what is led has a turn of the core -/
theorem rgo_led {g w h c h' c' : List Int} (r : Rgo w h c) (hw : Red w) (hz : ∀ i ∈ g, i ≠ 0) (r' : Rgo (ledr w g) h' c') : Rot c c' := by
  rcases r with ⟨rfl, rfl, rfl⟩ | r
  · rw [ledr_empty] at r'
    rw [(r'.uniq (.inl ⟨rfl, rfl, rfl⟩)).2]
    exact .refl _
  · obtain ⟨h2, c2, r2, q⟩ := rg_led g r hw hz
    rw [(r'.uniq (.inr r2)).2]
    exact q
/-- both ways round lead -/
theorem way_on {h l a b : List Int} (ho : Red (l ++ (b ++ a) ++ inv l)) : ledr (h ++ (a ++ b) ++ inv h) (red (h ++ a ++ inv l)) = l ++ (b ++ a) ++ inv l := by
  rw [ledr_red]
  refine (red_of_eqv (v := l ++ (b ++ a) ++ inv l) fun s hs => ?_).trans (red_self ho)
  simp (config := { maxDischargeDepth := 20 }) only [stk_append, inv_append, inv_inv, stk_ci, stk_ic, stk_red, hs]
theorem way_back {h l a b : List Int} (ho : Red (l ++ (b ++ a) ++ inv l)) : ledr (h ++ (a ++ b) ++ inv h) (red (h ++ inv b ++ inv l)) = l ++ (b ++ a) ++ inv l := by
  rw [ledr_red]
  refine (red_of_eqv (v := l ++ (b ++ a) ++ inv l) fun s hs => ?_).trans (red_self ho)
  simp (config := { maxDischargeDepth := 20 }) only [stk_append, inv_append, inv_inv, stk_ci, stk_ic, stk_red, hs]
/-! ## sums -/
def sm (i : Int) (w : List Int) : Int := (w.count i : Int) - (w.count (0 - i) : Int)
theorem sm_app (i : Int) (u v : List Int) : sm i (u ++ v) = sm i u + sm i v := by
  unfold sm
  rw [List.count_append, List.count_append]
  omega
theorem count_inv (i : Int) : ∀ w : List Int, (inv w).count i = w.count (0 - i)
  | [] => rfl
  | a :: w => by
    rw [inv_cons, List.count_append, count_inv i w, List.count_cons, List.count_cons, List.count_nil, Nat.zero_add]
    congr 1
    by_cases h : a = 0 - i
    · rw [if_pos (by simp; omega), if_pos (by simp; omega)]
    · rw [if_neg (by simp; omega), if_neg (by simp; omega)]
theorem sm_inv (i : Int) (w : List Int) : sm i (inv w) = - sm i w := by
  unfold sm
  rw [count_inv, count_inv, show (0 : Int) - (0 - i) = i by omega]
  omega
theorem sm_rot {w h c o l d : List Int} (i : Int) (r : Rgo w h c) (r' : Rgo o l d) (q : Rot c d) : sm i w = sm i o := by
  rw [r.eq, r'.eq]
  obtain ⟨a, b, rfl, rfl⟩ := q
  simp only [sm_app, sm_inv]
  omega
end FG

set_option maxHeartbeats 4000000
namespace DL
open PySem PySem.Spec PyProof.Rows L2
/-! # Comprehensions as filter and map -/
theorem lcL_gen {bind : FG} {ft : FT} {fe : FP} {e : En} {p : D → Bool} {f : D → D} : ∀ ds : List D, (∀ d ∈ ds, ∃ e1, bind d e = some e1 ∧ ft e1 = some (p d) ∧ (p d = true → ∃ r, fe e1 = some r ∧ r.item = some (f d))) → lcL bind ft fe e ds = some ((ds.filter p).map f)
  | [], _ => rfl
  | d :: ds, h => by
    have ih := lcL_gen ds fun x hx => h x (List.mem_cons_of_mem _ hx)
    obtain ⟨e1, h1, h2, h3⟩ := h d List.mem_cons_self
    unfold lcL
    rw [h1, Option.bind_some, h2, Option.bind_some, ih]
    cases hp : p d with
    | false =>
      rw [List.filter_cons_of_neg (by rw [hp]; decide)]
      rfl
    | true =>
      obtain ⟨r, h4, h5⟩ := h3 hp
      rw [List.filter_cons_of_pos hp, if_pos rfl, h4, Option.bind_some, h5]
      rfl
theorem lcL_all {bind : FG} {fe : FP} {e : En} {f : D → D} (ds : List D) (h : ∀ d ∈ ds, ∃ e1 r, bind d e = some e1 ∧ fe e1 = some r ∧ r.item = some (f d)) : lcL bind tAll fe e ds = some (ds.map f) := by
  have := lcL_gen (bind := bind) (ft := tAll) (fe := fe) (e := e) (p := fun _ => true) (f := f) ds fun d hd => by
    obtain ⟨e1, r, h1, h2, h3⟩ := h d hd
    exact ⟨e1, h1, rfl, fun _ => ⟨r, h2, h3⟩⟩
  rw [this, List.filter_eq_self.mpr fun _ _ => rfl]
/-- a comprehension over ints -/
theorem lcI_all {α : Type} {g : α → D} {h : α → D} {i : Nat} {fe : FP} {e : En} (hi : i < e.length) (as : List α) (hf : ∀ a ∈ as, ∃ r, fe (e.set i (some (.d (g a)))) = some r ∧ r.item = some (h a)) : lcL (gNm i) tAll fe e (as.map g) = some (as.map h) := by
  induction as with
  | nil => rfl
  | cons a as ih =>
    have ih := ih fun x hx => hf x (List.mem_cons_of_mem _ hx)
    obtain ⟨r, h1, h2⟩ := hf a List.mem_cons_self
    rw [List.map_cons, List.map_cons]
    unfold lcL
    rw [ih, show gNm i (g a) e = some (e.set i (some (.d (g a)))) from if_pos hi, Option.bind_some, show tAll (e.set i (some (.d (g a)))) = some true from rfl, Option.bind_some, if_pos rfl, h1, Option.bind_some, h2]
    rfl
theorem lcI_some {α : Type} {g : α → D} {h : α → D} {p : α → Bool} {i : Nat} {ft : FT} {fe : FP} {e : En} (hi : i < e.length) (as : List α) (ht : ∀ a ∈ as, ft (e.set i (some (.d (g a)))) = some (p a)) (hf : ∀ a ∈ as, p a = true → ∃ r, fe (e.set i (some (.d (g a)))) = some r ∧ r.item = some (h a)) :
    lcL (gNm i) ft fe e (as.map g) = some ((as.filter p).map h) := by
  induction as with
  | nil => rfl
  | cons a as ih =>
    have ih := ih (fun x hx => ht x (List.mem_cons_of_mem _ hx)) fun x hx => hf x (List.mem_cons_of_mem _ hx)
    have h1 := ht a List.mem_cons_self
    rw [List.map_cons]
    unfold lcL
    rw [ih, show gNm i (g a) e = some (e.set i (some (.d (g a)))) from if_pos hi, Option.bind_some, h1, Option.bind_some]
    cases hp : p a with
    | false =>
      rw [List.filter_cons_of_neg (by rw [hp]; decide)]
      rfl
    | true =>
      obtain ⟨r, h2, h3⟩ := hf a List.mem_cons_self hp
      rw [List.filter_cons_of_pos hp, if_pos rfl, h2, Option.bind_some, h3]
      rfl
theorem lcA_some {α : Type} {g : α → D} {h : α → D} {p : α → Bool} {bind : FG} {ft : FT} {fe : FP} {e : En} {E : α → En} (as : List α) (hb : ∀ a ∈ as, bind (g a) e = some (E a)) (ht : ∀ a ∈ as, ft (E a) = some (p a)) (hf : ∀ a ∈ as, p a = true → ∃ r, fe (E a) = some r ∧ r.item = some (h a)) :
    lcL bind ft fe e (as.map g) = some ((as.filter p).map h) := by
  induction as with
  | nil => rfl
  | cons a as ih =>
    have ih := ih (fun x hx => hb x (List.mem_cons_of_mem _ hx)) (fun x hx => ht x (List.mem_cons_of_mem _ hx)) fun x hx => hf x (List.mem_cons_of_mem _ hx)
    have h1 := ht a List.mem_cons_self
    rw [List.map_cons]
    unfold lcL
    rw [ih, hb a List.mem_cons_self, Option.bind_some, h1, Option.bind_some]
    cases hp : p a with
    | false =>
      rw [List.filter_cons_of_neg (by rw [hp]; decide)]
      rfl
    | true =>
      obtain ⟨r, h2, h3⟩ := hf a List.mem_cons_self hp
      rw [List.filter_cons_of_pos hp, if_pos rfl, h2, Option.bind_some, h3]
      rfl
theorem asg_fz {f : FP} {g : FG} {e e2 : En} {x : D} (h : f e = some (.fz x)) (h2 : g x e = some e2) : sAsg (mPP f) g e = .nx e2 := by
  unfold sAsg mPP
  rw [h]
  show (match g x e with
    | some e2 => Fl.nx e2
    | none => Fl.stuck) = _
  rw [h2]
/-- l.extend(made) -/
theorem ext_ok {f : FP} {e : En} {i : Nat} {xs ys : List D} (hi : e[i]? = some (some (.lst xs))) (h : f e = some (.fr ys)) (hz : xs.length + ys.length ≤ 1000) : sExpr (mMt i gExt (mPP f)) e = .nx (e.set i (some (.lst (xs ++ ys)))) := by
  have hl : i < e.length := by
    rcases Nat.lt_or_ge i e.length with q | q
    · exact q
    · rw [List.getElem?_eq_none q] at hi; cases hi
  have z : xs.length + ys.length ≤ SZ := by unfold SZ; omega
  unfold sExpr mMt mPP
  rw [h]
  simp [hi, z]
/-- a list made into an owned name -/
theorem setO_fr {f : FP} {e : En} {xs : List D} {i : Nat} (h : f e = some (.fr xs)) (hi : i < e.length) : sSetO i (mPP f) e = .nx (e.set i (some (.lst xs))) := by unfold sSetO mPP; rw [h]; exact if_pos hi
theorem okSort_of {F : List S → Out} {k : D → D} {ds : List D} (h : ∀ d ∈ ds, d.flat = true ∧ (∃ e, F [.d d] = .ok (.d (k d)) e) ∧ (k d).okp = true ∧ (k d).py.depth ≤ 64 ∧ tupK (k d).py = true) (h2 : ∀ d ∈ ds, ∀ e ∈ ds, PySem.W.alike (k d).py (k e).py = true) : okSort F ds = true := by
  have kf : ∀ d ∈ ds, keyF F d = k d := fun d hd => by
    obtain ⟨_, ⟨e, he⟩, _⟩ := h d hd
    unfold keyF
    rw [he]
  unfold okSort
  rw [Bool.and_eq_true]
  refine ⟨List.all_eq_true.mpr fun d hd => ?_, List.all_eq_true.mpr fun d hd => List.all_eq_true.mpr fun e he => ?_⟩
  · obtain ⟨h1, ⟨e, he⟩, h3, h4, h5⟩ := h d hd
    have kt : keyT F d = true := by unfold keyT; rw [he]
    rw [kf d hd, h1, kt, h3, decide_eq_true h4, h5]
    rfl
  · rw [kf d hd, kf e he]
    exact h2 d hd e he
theorem enumD_map {g : Nat → D} : ∀ (n b : Nat), enumD b ((List.range' b n).map g) = (List.range' b n).map fun i => .tup [.int (i : Nat), g i]
  | 0, _ => rfl
  | n + 1, b => by
    show D.tup [.int (b : Nat), g b] :: enumD (b + 1) ((List.range' (b + 1) n).map g) = _
    rw [enumD_map n (b + 1)]
    rfl
theorem enumD_range {g : Nat → D} (n : Nat) : enumD 0 ((List.range n).map g) = (List.range n).map fun i => .tup [.int (i : Nat), g i] := by
  rw [List.range_eq_range']
  exact enumD_map n 0
theorem rangeD0 (n : Nat) : rangeD 0 n = (List.range n).map fun (i : Nat) => D.int (i : Nat) := by
  unfold rangeD
  refine List.map_congr_left fun i _ => ?_
  rw [Int.zero_add]
theorem pLc_fr {vs : List Nat} {fi : FI} {bind : FG} {ft : FT} {fe : FP} {e : En} {ds xs : List D} {b : Bool} (h : fi e = some (ds, b)) (h2 : lcL bind ft fe (wipeE e vs) ds = some xs) (hz : xs.length ≤ 1000) : pLc vs fi bind ft fe e = some (.fr xs) := pLc_ok h h2 (by unfold SZ; omega)
theorem pOr_t {fa fb : FP} {e : En} (h : fa e = some (.fz (.bl true))) : pOr fa fb e = some (.fz (.bl true)) := by unfold pOr; rw [h]; rfl
theorem pOr_f {fa fb : FP} {e : En} (h : fa e = some (.fz (.bl false))) : pOr fa fb e = fb e := by unfold pOr; rw [h]; rfl
theorem pNot_ok {fa : FP} {e : En} {b : Bool} (h : fa e = some (.fz (.bl b))) : pNot fa e = some (.fz (.bl (!b))) := by unfold pNot; rw [h]; rfl
theorem pAnd_ok {fa fb : FP} {e : En} {a b : Bool} (h : fa e = some (.fz (.bl a))) (h2 : a = true → fb e = some (.fz (.bl b))) : pAnd fa fb e = some (.fz (.bl (a && b))) := by
  cases a with
  | false => exact pAnd_f h
  | true => rw [pAnd_t h, h2 rfl]; rfl
theorem pOr_ok {fa fb : FP} {e : En} {a b : Bool} (h : fa e = some (.fz (.bl a))) (h2 : a = false → fb e = some (.fz (.bl b))) : pOr fa fb e = some (.fz (.bl (a || b))) := by
  cases a with
  | true => exact pOr_t h
  | false => rw [pOr_f h, h2 rfl]; rfl
theorem tOr_ok {fa fb : FT} {e : En} {a b : Bool} (h : fa e = some a) (h2 : a = false → fb e = some b) : tOr fa fb e = some (a || b) := by
  unfold tOr
  rw [h]
  cases a with
  | true => rfl
  | false => exact h2 rfl
theorem tAnd_ok {fa fb : FT} {e : En} {a b : Bool} (h : fa e = some a) (h2 : a = true → fb e = some b) : tAnd fa fb e = some (a && b) := by
  unfold tAnd
  rw [h]
  cases a with
  | false => rfl
  | true => exact h2 rfl
theorem tNot_ok {fa : FT} {e : En} {b : Bool} (h : fa e = some b) : tNot fa e = some (!b) := by unfold tNot; rw [h]; rfl
theorem pN {e : En} {i : Nat} {d : D} (h : e[i]? = some (some (.d d))) : pName i e = some (.fz d) := by unfold pName; rw [h]
theorem pNl {e : En} {i : Nat} {xs : List D} (h : e[i]? = some (some (.lst xs))) : pName i e = some (.ow xs) := by unfold pName; rw [h]
theorem call1 {F : List S → Out} {fa : FP} {e e' : En} {a x : D} (ha : fa e = some (.fz a)) (h : F [.d a] = .ok (.d x) e') : pFd F (aCons fa aNil) e = some (.fz x) := (pFd_ok (aCons_ok (rs := []) ha rfl)).trans (callP_fz h (.inl rfl))
theorem call2 {F : List S → Out} {fa fb : FP} {e e' : En} {a b x : D} (ha : fa e = some (.fz a)) (hb : fb e = some (.fz b)) (h : F [.d a, .d b] = .ok (.d x) e') : pFd F (aCons fa (aCons fb aNil)) e = some (.fz x) := (pFd_ok (aCons_ok ha (aCons_ok (rs := []) hb rfl))).trans (callP_fz h (.inl rfl))
theorem call3 {F : List S → Out} {fa fb fc : FP} {e e' : En} {a b c x : D} (ha : fa e = some (.fz a)) (hb : fb e = some (.fz b)) (hc : fc e = some (.fz c)) (h : F [.d a, .d b, .d c] = .ok (.d x) e') : pFd F (aCons fa (aCons fb (aCons fc aNil))) e = some (.fz x) := (pFd_ok (aCons_ok ha (aCons_ok hb (aCons_ok (rs := []) hc rfl)))).trans (callP_fz h (.inl rfl))
theorem call4 {F : List S → Out} {fa fb fc fd : FP} {e e' : En} {a b c d x : D} (ha : fa e = some (.fz a)) (hb : fb e = some (.fz b)) (hc : fc e = some (.fz c)) (hd : fd e = some (.fz d)) (h : F [.d a, .d b, .d c, .d d] = .ok (.d x) e') : pFd F (aCons fa (aCons fb (aCons fc (aCons fd aNil)))) e = some (.fz x) := (pFd_ok (aCons_ok ha (aCons_ok hb (aCons_ok hc (aCons_ok (rs := []) hd rfl))))).trans (callP_fz h (.inl rfl))
/-- of a list made at once -/
theorem call1r {F : List S → Out} {fa : FP} {e e' : En} {xs : List D} {x : D} (ha : fa e = some (.fr xs)) (h : F [.d (.lst xs)] = .ok (.d x) e') : pFd F (aCons fa aNil) e = some (.fz x) := (pFd_ok (aCons_ok (rs := []) ha rfl)).trans (callP_fz h (.inl rfl))
theorem forL_nx {bind : FG} {fb : FS} {d : D} {ds : List D} {e e1 e2 : En} (h : bind d e = some e1) (h2 : fb e1 = .nx e2) : forL bind fb (d :: ds) e = forL bind fb ds e2 := by
  show (match bind d e with
    | none => Fl.stuck
    | some e1 => match fb e1 with
      | .nx e2 => forL bind fb ds e2
      | .ct e2 => forL bind fb ds e2
      | .bk e2 => .nx e2
      | o => o) = _
  rw [h]
  show (match fb e1 with
      | .nx e2 => forL bind fb ds e2
      | .ct e2 => forL bind fb ds e2
      | .bk e2 => .nx e2
      | o => o) = _
  rw [h2]
theorem forL_rt {bind : FG} {fb : FS} {d : D} {ds : List D} {e e1 e2 : En} {s : S} (h : bind d e = some e1) (h2 : fb e1 = .rt s e2) : forL bind fb (d :: ds) e = .rt s e2 := by
  show (match bind d e with
    | none => Fl.stuck
    | some e1 => match fb e1 with
      | .nx e2 => forL bind fb ds e2
      | .ct e2 => forL bind fb ds e2
      | .bk e2 => .nx e2
      | o => o) = _
  rw [h]
  show (match fb e1 with
      | .nx e2 => forL bind fb ds e2
      | .ct e2 => forL bind fb ds e2
      | .bk e2 => .nx e2
      | o => o) = _
  rw [h2]
theorem pLst_ok {fs : FA} {e : En} {rs : List RV} {xs : List D} (h : fs e = some rs) (h2 : items rs = some xs) (hz : xs.length ≤ 1000) : pLst fs e = some (.fr xs) := by
  unfold pLst
  rw [h, Option.bind_some, h2, Option.bind_some]
  exact if_pos (by unfold SZ; omega)
theorem pTup_ok {fs : FA} {e : En} {rs : List RV} {xs : List D} (h : fs e = some rs) (h2 : items rs = some xs) (hz : xs.length ≤ 1000) : pTup fs e = some (.fz (.tup xs)) := by
  unfold pTup
  rw [h, Option.bind_some, h2, Option.bind_some]
  exact if_pos (by unfold SZ; omega)
theorem lCons_fz {f : FP} {fs : FL} {e e' : En} {x : D} {xs : List D} (h : f e = some (.fz x)) (h2 : fs e = .ok xs e') : lCons (mPP f) fs e = .ok (x :: xs) e' := by
  unfold lCons mPP
  rw [h]
  show OL.cons x (fs e) = _
  rw [h2]
  rfl
theorem lCons_m {f : FM} {fs : FL} {e e1 e' : En} {x : D} {xs : List D} (h : f e = .ok (.d x) e1) (h2 : fs e1 = .ok xs e') : lCons f fs e = .ok (x :: xs) e' := by
  unfold lCons
  rw [h]
  show OL.cons x (fs e1) = _
  rw [h2]
  rfl
theorem mLst_ok {fs : FL} {e e' : En} {xs : List D} (h : fs e = .ok xs e') (hz : xs.length ≤ 1000) : mLst fs e = .ok (.lst xs) e' := by
  unfold mLst
  rw [h]
  show rvO (if xs.length ≤ SZ then some (.fr xs) else none) e' = _
  rw [if_pos (by unfold SZ; omega)]
  rfl
theorem set_m {f : FM} {e e1 : En} {s : S} {i : Nat} (h : f e = .ok s e1) (hi : i < e1.length) : sSet i f e = .nx (e1.set i (some (.d s.view))) := by
  unfold sSet
  rw [h]
  exact if_pos hi
theorem tmOr_nn {A B : FM} {e e1 e2 : En} (h : A e = .ok (.d (.bl true)) e1) (h2 : B e1 = .ok (.d (.bl true)) e2) : tmOr (tmNot A) (tmNot B) e = .ok (.d (.bl false)) e2 := by
  simp [h, h2]
theorem tmNot_t {A : FM} {e e1 : En} (h : A e = .ok (.d (.bl true)) e1) : tmNot A e = .ok (.d (.bl false)) e1 := by
  simp [h]
theorem if_fM {c : FM} {a b : FS} {e e1 : En} (h : c e = .ok (.d (.bl false)) e1) : sIf c a b e = b e1 := by
  simp [h]
theorem ret_m {f : FM} {e e1 : En} {x : D} (h : f e = .ok (.d x) e1) : sRet f e = .rt (.d x) e1 := by
  simp [h]
/-- all([M(d) for d in ds]), each turn true, the state going along -/
theorem allM_ok {P : List D → Prop} {i : Nat} {fi : FI} {M : FM} {E : List D → Option S → En} {ds : List D} {p : List D} (hfi : fi (E p none) = some (ds, true)) (hb : ∀ d p, gNm i d (E p none) = some (E p (some (.d d)))) (hw : ∀ p x, wipeE (E p x) [i] = E p none)
    (hu : ∀ p p', unw [i] (E p none) (E p' none) = E p' none) (step : ∀ d ∈ ds, ∀ p, P p → ∃ p', P p' ∧ M (E p (some (.d d))) = .ok (.d (.bl true)) (E p' (some (.d d)))) (hz : ds.length ≤ 1000) (hp : P p) :
    ∃ p', P p' ∧ mCa gAll (lCons (mLc [i] fi (gNm i) tAll M) lNil) (E p none) = .ok (.d (.bl true)) (E p' none) := by
  have loop : ∀ (us : List D) (p : List D), (∀ d ∈ us, d ∈ ds) → P p → ∃ p', P p' ∧ lcM (gNm i) tAll M [i] us (E p none) = .ok (us.map fun _ => D.bl true) (E p' none) := by
    intro us
    induction us with
    | nil => exact fun p _ hp => ⟨p, hp, rfl⟩
    | cons d us ih =>
      intro p hs hp
      obtain ⟨p1, hp1, e1⟩ := step d (hs d List.mem_cons_self) p hp
      obtain ⟨p2, hp2, e2⟩ := ih p1 (fun x hx => hs x (List.mem_cons_of_mem _ hx)) hp1
      refine ⟨p2, hp2, ?_⟩
      show (match gNm i d (E p none) with
        | none => OL.stuck
        | some e1 => match tAll e1 with
          | none => .stuck
          | some b => if b = true then (match M e1 with
            | .ok s e2 => OL.cons s.view (lcM (gNm i) tAll M [i] us (wipeE e2 [i]))
            | _ => .stuck) else lcM (gNm i) tAll M [i] us (wipeE e1 [i])) = _
      rw [hb]
      show (match M (E p (some (.d d))) with
            | .ok s e2 => OL.cons s.view (lcM (gNm i) tAll M [i] us (wipeE e2 [i]))
            | _ => .stuck) = _
      rw [e1]
      show OL.cons (.bl true) (lcM (gNm i) tAll M [i] us (wipeE (E p1 (some (.d d))) [i])) = _
      rw [hw, e2]
      rfl
  obtain ⟨p', hp', e⟩ := loop ds p (fun _ h => h) hp
  refine ⟨p', hp', ?_⟩
  have x : mLc [i] fi (gNm i) tAll M (E p none) = .ok (.lst (ds.map fun _ => D.bl true)) (E p' none) := by
    unfold mLc
    rw [hfi]
    show (match lcM (gNm i) tAll M [i] ds (wipeE (E p none) [i]) with
      | .ok xs e' => if xs.length ≤ SZ then Out.ok (.lst xs) (unw [i] (E p none) e') else .stuck
      | _ => .stuck) = _
    rw [hw, e]
    show (if (ds.map fun _ => D.bl true).length ≤ SZ then Out.ok (.lst (ds.map fun _ => D.bl true)) (unw [i] (E p none) (E p' none)) else .stuck) = _
    rw [if_pos (by rw [List.length_map]; unfold SZ; omega), hu]
  have g : gAll [.lst (ds.map fun _ => D.bl true)] = some (.fz (.bl true)) := by
    have b : ∀ ds : List D, bls? (ds.map fun _ => D.bl true) = some (ds.map fun _ => true) := fun ds => by
      induction ds with
      | nil => rfl
      | cons d ds ih =>
        show (bls? (ds.map fun _ => D.bl true)).map (true :: ·) = _
        rw [ih]
        rfl
    show (bls? (ds.map fun _ => D.bl true)).map (fun bs => RV.fz (.bl (bs.all id))) = _
    rw [b]
    show some (RV.fz (.bl ((ds.map fun _ => true).all id))) = _
    have al : (ds.map fun _ => true).all id = true := by
      rw [List.all_map]
      exact List.all_eq_true.mpr fun _ _ => rfl
    rw [al]
  unfold mCa lCons
  rw [x]
  show rvO (gAll [.lst (ds.map fun _ => D.bl true)]) (E p' none) = _
  rw [g]
  rfl
/-! # sorted by a key: the first one is one of them -/
theorem sort_first {F : List S → Out} {fa : FP} {e : En} {r : RV} {ds : List D} (h : fa e = some r) (hv : r.view = .lst ds) (ok : okSort F ds = true) (hn : ds ≠ []) : ∃ d ∈ ds, p2 gIx (pSortK F fa) (pCon (.int 0)) e = some (.fz d) := by
  obtain ⟨ys, hy⟩ : ∃ ys, ys = ds.mergeSort (PySem.W.dataLe false fun d => (keyF F d).py) := ⟨_, rfl⟩
  have x : pSortK F fa e = some (.fr ys) := by
    unfold pSortK
    rw [h, Option.bind_some, hv]
    show (if okSort F ds = true then some (RV.fr (ds.mergeSort (PySem.W.dataLe false fun d => (keyF F d).py))) else none) = _
    rw [if_pos ok, hy]
  have pm : ys.Perm ds := by rw [hy]; exact List.mergeSort_perm _ _
  cases ys with
  | nil => exact absurd (List.nil_perm.mp pm) hn
  | cons y ys =>
    refine ⟨y, pm.mem_iff.mp List.mem_cons_self, ?_⟩
    rw [p2_ok x (b := .fz (.int 0)) rfl]
    show (atI (y :: ys) 0).map RV.fz = _
    unfold atI ixN
    rw [if_pos (by omega), if_pos (by simp)]
    rfl
end DL

set_option maxHeartbeats 4000000
namespace FG
/-! # Turns of a ring -/
def turn (c : List Int) (k : Nat) : List Int := c.drop k ++ c.take k
theorem turn_len (c : List Int) {k : Nat} (h : k ≤ c.length) : (turn c k).length = c.length := by
  unfold turn
  rw [List.length_append, List.length_drop, List.length_take]
  omega
theorem at_turn {c : List Int} {k : Nat} (hk : k ≤ c.length) (hc : c ≠ []) (i : Nat) : at_ (turn c k) i = at_ c (i + k) := by
  have n0 := List.length_pos_iff.mpr hc
  unfold at_
  rw [turn_len c hk]
  have hj := Nat.mod_lt i n0
  have e : (i + k) % c.length = (i % c.length + k) % c.length := by rw [Nat.mod_add_mod]
  rw [e]
  generalize i % c.length = j at hj
  unfold turn
  rw [List.getD_eq_getElem?_getD, List.getD_eq_getElem?_getD]
  by_cases h : j < c.length - k
  · rw [List.getElem?_append_left (by rw [List.length_drop]; exact h), List.getElem?_drop, Nat.mod_eq_of_lt (by omega), Nat.add_comm]
  · rw [List.getElem?_append_right (by rw [List.length_drop]; omega), List.length_drop, List.getElem?_take_of_lt (by omega)]
    have : (j + k) % c.length = j - (c.length - k) := by
      by_cases z : k = c.length
      · subst z
        rw [Nat.add_mod_right, Nat.mod_eq_of_lt hj]
        omega
      · rw [Nat.mod_eq_sub_mod (by omega), Nat.mod_eq_of_lt (by omega)]
        omega
    rw [this]
theorem ext_at {c d : List Int} (hl : c.length = d.length) (h : ∀ i, at_ c i = at_ d i) : c = d := by
  refine List.ext_getElem hl fun i h1 h2 => ?_
  rw [← at_lt h1, ← at_lt h2]
  exact h i
theorem at_n (c : List Int) (i : Nat) : at_ c (i + c.length) = at_ c i := by
  unfold at_
  rw [Nat.add_mod_right]
theorem turn_mod {c : List Int} {l k : Nat} (hc : c ≠ []) (h : Per c l) (hk : k ≤ c.length) : turn c k = turn c (k % l) := by
  have hl := h.2.1
  have hm : k % l ≤ c.length := Nat.le_trans (Nat.le_of_lt (Nat.mod_lt k h.1)) hl
  refine ext_at (by rw [turn_len c hk, turn_len c hm]) fun i => ?_
  rw [at_turn hk hc, at_turn hm hc]
  have q := at_mul (per_at h).2 (k / l) (i + k % l)
  have e : i + k % l + k / l * l = i + k := by
    have := Nat.mod_add_div k l
    rw [Nat.mul_comm] at this
    omega
  rw [e] at q
  exact q
theorem turn_ne {c : List Int} {l k m : Nat} (hc : c ≠ []) (h : IsLp c l) (hkm : k < m) (hm : m < l) : turn c k ≠ turn c m := fun z => by
  have hl := h.1.2.1
  have a : ∀ i, at_ c (i + k) = at_ c (i + m) := fun i => by rw [← at_turn (by omega) hc, ← at_turn (by omega) hc, z]
  have b : ∀ i, at_ c (i + (m - k)) = at_ c i := fun i => by
    have q := a (i + (c.length - k))
    rw [show i + (c.length - k) + k = i + c.length by omega, show i + (c.length - k) + m = i + (m - k) + c.length by omega, at_n, at_n] at q
    exact q.symm
  have g := at_gcd ((m - k) + c.length) (m - k) c.length (Nat.le_refl _) b (at_n c)
  have p := at_per hc (Nat.gcd_dvd_right (m - k) c.length) g
  have q := h.2 _ p
  have r := Nat.gcd_le_left c.length (show 0 < m - k by omega)
  omega
theorem ledr_turn {c : List Int} (k : Nat) (h : Cyc c) : ledr c (c.take k) = turn c k := by
  have rot : Rot c (turn c k) := ⟨c.take k, c.drop k, (List.take_append_drop k c).symm, rfl⟩
  have ho : Red ([] ++ (c.drop k ++ c.take k) ++ inv []) := by
    have := (rot.cyc h).2.left
    simpa [inv, turn] using this
  have q := way_on (h := []) (l := []) (a := c.take k) (b := c.drop k) ho
  rw [ledr_red] at q
  simp only [List.nil_append, List.take_append_drop] at q
  have i0 : inv [] = [] := rfl
  rw [i0, List.append_nil, List.append_nil, List.append_nil] at q
  exact q
/-- powers: the head with the core's powers -/
theorem rgo_pow {w h c : List Int} (R : Rgo w h c) (hw : Red w) (hc : c ≠ []) {n : Nat} (hn : 1 ≤ n) : red (pw w n) = h ++ pw c n ++ inv h := by
  rcases R with ⟨_, _, z⟩ | R
  · exact absurd z hc
  · exact (rg_pw R hw hn).1
theorem rgo_inv {w h c : List Int} (R : Rgo w h c) : Rgo (inv w) h (inv c) := by
  rcases R with ⟨rfl, rfl, rfl⟩ | ⟨e, k⟩
  · exact .inl ⟨rfl, rfl, rfl⟩
  · refine .inr ⟨?_, cyc_inv k⟩
    rw [e, inv_append, inv_append, inv_inv, List.append_assoc]
theorem rgo_core {w h c : List Int} (R : Rgo w h c) : (c = [] ↔ w = []) := by
  rcases R with ⟨rfl, _, rfl⟩ | R
  · exact ⟨fun _ => rfl, fun _ => rfl⟩
  · exact ⟨fun z => absurd z R.2.1, fun z => absurd z (rg_ne R)⟩
/-- a turn is its own ring -/
theorem rgo_turn {w h c : List Int} (R : Rgo w h c) (k : Nat) : Rgo (turn c k) [] (turn c k) := by
  rcases R with ⟨_, _, rfl⟩ | R
  · exact .inl ⟨by unfold turn; simp, rfl, by unfold turn; simp⟩
  · exact .inr ⟨by simp [inv], Rot.cyc ⟨c.take k, c.drop k, (List.take_append_drop k c).symm, rfl⟩ R.2⟩
/-- the ends of a word -/
def endsB (w : List Int) : Bool := match w with
  | [] => true
  | a :: _ => decide (a + w.getLastD 0 ≠ 0)
theorem ends_ok {w h c : List Int} (R : Rgo w h c) (hz : ∀ i ∈ w, i ≠ 0) : endsB w = decide (h = []) := by
  rcases R with ⟨rfl, rfl, rfl⟩ | R
  · rfl
  · obtain ⟨e, k⟩ := R
    cases h with
    | cons x t =>
      have ew : w = (x :: (t ++ c ++ inv t)) ++ [-x] := by rw [e, inv_cons]; simp
      rw [decide_eq_false (by simp)]
      rw [ew]
      show decide (x + ((x :: (t ++ c ++ inv t)) ++ [-x]).getLastD 0 ≠ 0) = false
      rw [List.getLastD_concat]
      exact decide_eq_false fun z => z (by omega)
    | nil =>
      have ew : w = c := by rw [e]; simp [inv]
      rw [decide_eq_true rfl]
      subst ew
      obtain ⟨y, t, rfl⟩ : ∃ y t, w = y :: t := by
        cases w with
        | nil => exact absurd rfl k.1
        | cons y t => exact ⟨y, t, rfl⟩
      show decide (y + (y :: t).getLastD 0 ≠ 0) = true
      refine decide_eq_true fun z => ?_
      rcases List.eq_nil_or_concat t with q | ⟨m, b, q⟩
      · subst q
        have := hz y (by simp)
        simp at z
        omega
      · rw [List.concat_eq_append] at q
        subst q
        rw [show y :: (m ++ [b]) = (y :: m) ++ [b] from rfl, List.getLastD_concat] at z
        have : b = -y := by omega
        subst this
        exact cyc_ends k
end FG

set_option maxHeartbeats 4000000
namespace DL
open PySem PySem.Spec PyProof.Rows L2
/-! # walks: checks, loops, shown things (no law in sight) -/
theorem ckF {t : FT} {e : En} (h : t e = some false) : sIf (tMT t) (sRet (mPP (pCon (.bl false)))) sNil e = .nx e := (if_f h).trans rfl
theorem nice_bl (b : Bool) : (D.bl b).nice = true := rfl
theorem eq_same {x : D} (n : x.nice = true) (d : x.dep ≤ 64) : gEq x x = some (.fz (.bl true)) := by rw [gEq_nice n n d d, eqb_refl n]
theorem ne_same {x : D} (n : x.nice = true) (d : x.dep ≤ 64) : gNe x x = some (.fz (.bl false)) := by rw [gNe_nice n n d d, eqb_refl n]; rfl
theorem ne_f {f g : FP} {e : En} {a b : RV} (hf : f e = some a) (hg : g e = some b) (h : a.view = b.view) (n : a.view.nice = true) (d : a.view.dep ≤ 64) : tVal (p2 gNe f g) e = some false :=
  tVal_ok ((p2_ok hf hg).trans (by rw [← h]; exact ne_same n d))
theorem repr_fr {f : FP} {e : En} {xs : List D} (h : f e = some (.fr xs)) (n : niceL xs = true) (d : depL xs ≤ 60) (s : sizeL xs ≤ 8000) : pCa gRepr (aCons f aNil) e = some (.fz (.str (D.lst xs).py.shown)) := (pCa_ok (aCons_ok (rs := []) h rfl)).trans (repr_lst n d s)
theorem repr_fz {f : FP} {e : En} {xs : List D} (h : f e = some (.fz (.lst xs))) (n : niceL xs = true) (d : depL xs ≤ 60) (s : sizeL xs ≤ 8000) : pCa gRepr (aCons f aNil) e = some (.fz (.str (D.lst xs).py.shown)) := (pCa_ok (aCons_ok (rs := []) h rfl)).trans (repr_lst n d s)
/-- two shown things that are one -/
theorem shown_f {f g : FP} {e : En} {xs : List D} (hf : f e = some (.fz (.str (D.lst xs).py.shown))) (hg : g e = some (.fz (.str (D.lst xs).py.shown))) (n : niceL xs = true) : tVal (p2 gNe f g) e = some false :=
  tVal_ok ((p2_ok hf hg).trans (shown_ne_same (x := .lst xs) n))
theorem forL_any {bind : FG} {fb : FS} {I : En → Prop} : ∀ (ds : List D), (∀ d ∈ ds, ∀ e, I e → ∃ e1 e2, bind d e = some e1 ∧ fb e1 = .nx e2 ∧ I e2) → ∀ e, I e → ∃ e', forL bind fb ds e = .nx e' ∧ I e'
  | [], _, e, h => ⟨e, rfl, h⟩
  | d :: ds, hb, e, h => by
    obtain ⟨e1, e2, h1, h2, h3⟩ := hb d List.mem_cons_self e h
    obtain ⟨e', h4, h5⟩ := forL_any ds (fun x hx => hb x (List.mem_cons_of_mem _ hx)) e2 h3
    exact ⟨e', (forL_nx h1 h2).trans h4, h5⟩
theorem for_any {fi : FI} {bind : FG} {fb : FS} {I : En → Prop} {e : En} {ds : List D} (hs : fi e = some (ds, true)) (hb : ∀ d ∈ ds, ∀ e, I e → ∃ e1 e2, bind d e = some e1 ∧ fb e1 = .nx e2 ∧ I e2) (h : I e) : ∃ e', sFor fi bind fb e = .nx e' ∧ I e' := by
  obtain ⟨e', h1, h2⟩ := forL_any ds hb e h
  refine ⟨e', ?_, h2⟩
  unfold sFor
  rw [hs]
  exact h1
theorem lc_true {bind : FG} {P : FP} {e : En} (ds : List D) (h : ∀ d ∈ ds, ∃ e1, bind d e = some e1 ∧ P e1 = some (.fz (.bl true))) : lcL bind tAll P e ds = some (ds.map fun _ => D.bl true) :=
  lcL_all (f := fun _ => D.bl true) ds fun d hd => let ⟨e1, a, b⟩ := h d hd; ⟨e1, _, a, b, rfl⟩
theorem bls_true : ∀ ds : List D, bls? (ds.map fun _ => D.bl true) = some (ds.map fun _ => true)
  | [] => rfl
  | d :: ds => by
    show (bls? (ds.map fun _ => D.bl true)).map (true :: ·) = _
    rw [bls_true ds]
    rfl
theorem gAll_t (ds : List D) : gAll [.lst (ds.map fun _ => D.bl true)] = some (.fz (.bl true)) := by
  show (bls? (ds.map fun _ => D.bl true)).map (fun bs => RV.fz (.bl (bs.all id))) = _
  rw [bls_true]
  show some (RV.fz (.bl ((ds.map fun _ => true).all id))) = _
  congr 3
  rw [List.all_map]
  exact List.all_eq_true.mpr fun _ _ => rfl
theorem allP_ok {vs : List Nat} {bind : FG} {P : FP} {fi : FI} {e : En} {ds : List D} {b : Bool} (hs : fi e = some (ds, b)) (hz : ds.length ≤ 10000) (h : ∀ d ∈ ds, ∃ e1, bind d (wipeE e vs) = some e1 ∧ P e1 = some (.fz (.bl true))) : pCa gAll (aCons (pLc vs fi bind tAll P) aNil) e = some (.fz (.bl true)) := by
  have q : pLc vs fi bind tAll P e = some (.fr (ds.map fun _ => D.bl true)) := pLc_ok hs (lc_true ds h) (by rw [List.length_map]; unfold SZ; omega)
  exact (pCa_ok (aCons_ok (rs := []) q rfl)).trans (gAll_t ds)
theorem allT_ok {vs : List Nat} {bind : FG} {P : FP} {fi : FI} {e : En} {ds : List D} {b : Bool} (hs : fi e = some (ds, b)) (hz : ds.length ≤ 10000) (h : ∀ d ∈ ds, ∃ e1, bind d (wipeE e vs) = some e1 ∧ P e1 = some (.fz (.bl true))) : tVal (pCa gAll (aCons (pLc vs fi bind tAll P) aNil)) e = some true := tVal_ok (allP_ok hs hz h)
theorem appI_ok {f : FP} {e : En} {i : Nat} {xs : List D} {d : D} (hi : e[i]? = some (some (.lst xs))) (h : f e = some (.fz d)) (hz : xs.length < 100000) : sExpr (mMt i gApp (mPP f)) e = .nx (e.set i (some (.lst (xs ++ [d])))) := by
  have z : xs.length < SZ := by unfold SZ; omega
  have q : isL i e = true := by unfold isL; rw [hi]
  have c : chg i gApp d e = .ok (.d .non) (e.set i (some (.lst (xs ++ [d])))) := by
    unfold chg
    rw [hi]
    show (match (if xs.length < SZ then some (D.non, xs ++ [d]) else none) with
      | some (y, ys) => Out.ok (.d y) (e.set i (some (.lst ys)))
      | none => .stuck) = _
    rw [if_pos z]
  have m : mMt i gApp (mPP f) e = .ok (.d .non) (e.set i (some (.lst (xs ++ [d])))) := by
    unfold mMt mPP
    rw [if_pos q, h]
    exact c
  unfold sExpr
  rw [m]
  rfl
theorem zip_next {α : Type} {R : α → α → Prop} {g : α → D} : ∀ {l : List α}, l.Pairwise R → ∀ d ∈ zipD (l.map g) ((l.map g).drop 1), ∃ a b, a ∈ l ∧ b ∈ l ∧ d = .tup [g a, g b] ∧ R a b
  | [], _, _, h => nomatch h
  | [a], _, _, h => nomatch h
  | a :: b :: l, p, d, h => by
    have h : d ∈ D.tup [g a, g b] :: zipD ((b :: l).map g) (((b :: l).map g).drop 1) := h
    rcases List.mem_cons.mp h with rfl | h
    · exact ⟨a, b, List.mem_cons_self, List.mem_cons_of_mem _ List.mem_cons_self, rfl, (List.pairwise_cons.mp p).1 b List.mem_cons_self⟩
    · obtain ⟨x, y, h1, h2, h3, h4⟩ := zip_next (List.pairwise_cons.mp p).2 d h
      exact ⟨x, y, List.mem_cons_of_mem _ h1, List.mem_cons_of_mem _ h2, h3, h4⟩
theorem zip_len (xs ys : List D) : (zipD xs ys).length ≤ xs.length := by
  unfold zipD
  rw [List.length_zipWith]
  omega
/-! ## effects -/
theorem mpp_fz {f : FP} {e : En} {x : D} (h : f e = some (.fz x)) : mPP f e = .ok (.d x) e := by unfold mPP; rw [h]; rfl
theorem mpp_fr {f : FP} {e : En} {xs : List D} (h : f e = some (.fr xs)) : mPP f e = .ok (.lst xs) e := by unfold mPP; rw [h]; rfl
theorem m2_fz {g : D → D → Option RV} {fa fb : FM} {e e1 e2 : En} {s t : S} {x : D} (h : fa e = .ok s e1) (h2 : fb e1 = .ok t e2) (h3 : g s.view t.view = some (.fz x)) : m2 g fa fb e = .ok (.d x) e2 := by
  simp only [m2, h, Out.bind, h2, h3, rvO]
theorem m2_fr {g : D → D → Option RV} {fa fb : FM} {e e1 e2 : En} {s t : S} {xs : List D} (h : fa e = .ok s e1) (h2 : fb e1 = .ok t e2) (h3 : g s.view t.view = some (.fr xs)) : m2 g fa fb e = .ok (.lst xs) e2 := by
  simp only [m2, h, Out.bind, h2, h3, rvO]
/-- a call with one argument, by its effects -/
theorem mfd1 {F : List S → Out} {f : FM} {e e1 : En} {s t : S} {o0 : Option S} (h : f e = .ok s e1) (h2 : F [.d s.view] = .ok t [o0]) : mFd 1 F (arFz f arNil) e = .ok t e1 := by
  simp [mFd, arFz, h, h2, -S.view]
end DL

set_option maxHeartbeats 0
namespace G14
open PySem PySem.Spec PyProof.Rows L2 DL
/-! ## mirrors -/
def FUEL : Nat := 1000000
def B_is_integer : FS := (sRet (mPP (pAnd (pIsi .int (pName 0)) (pNot (pIsi .bool (pName 0))))))
def F_is_integer : List S → Out := fnF 1 [] B_is_integer
def B_is_list : FS := (sRet (mPP (pIsi2 .list .tuple (pName 0))))
def F_is_list : List S → Out := fnF 1 [] B_is_list
def B_want_at_most : FS := (sIf (tMT (tVal (p2 gGt (pName 2) (pName 1)))) sStuck sNil)
def F_want_at_most : List S → Out := fnF 3 [] B_want_at_most
def B_is_reduced : FS := (sRet (mPP (pCa gAll (aCons (pLc [1, 2] (iZip (aCons (pName 0) (aCons (pSl (pName 0) (oSome (pCon (.int 1))) oNone) aNil))) (gTp 2 (gsCons (gNm 1) (gsCons (gNm 2) gsNil))) tAll (p2 gNe (p2 gAdd (pName 1) (pName 2)) (pCon (.int 0)))) aNil))))
def F_is_reduced : List S → Out := fnF 3 [] B_is_reduced
def B_letter_place : FS := (sRet (mPP (pIf (tVal (p2 gGt (pName 0) (pCon (.int 0)))) (p2 gSub (p2 gMul (pCon (.int 2)) (pName 0)) (pCon (.int 2))) (p2 gSub (p2 gSub (pCon (.int 0)) (p2 gMul (pCon (.int 2)) (pName 0))) (pCon (.int 1))))))
def F_letter_place : List S → Out := fnF 1 [] B_letter_place
def B_reduced_of : FS := (sSeq (sSetO 1 (mPP (pLst aNil))) (sSeq (sFor (iSeq (pName 0)) (gNm 2) (sIf (tMT (tAnd (tVal (p2 gNe (pName 1) (pLst aNil))) (tVal (p2 gEq (p2 gAdd (p2 gIx (pName 1) (p1 gNeg (pCon (.int 1)))) (pName 2)) (pCon (.int 0)))))) (sExpr (chg0 1 gPop)) (sExpr (mMt 1 gApp (mPP (pName 2)))))) (sRet (mPP (pCa gTuple (aCons (pName 1) aNil))))))
def F_reduced_of : List S → Out := fnF 3 [] B_reduced_of
def B_undone_of : FS := (sRet (mPP (pCa gTuple (aCons (pLc [1] (iSeq (pRev (pName 0))) (gNm 1) tAll (p2 gSub (pCon (.int 0)) (pName 1))) aNil))))
def F_undone_of : List S → Out := fnF 2 [] B_undone_of
def B_is_ring : FS := (sRet (mPP (pOr (p2 gEq (pName 0) (pTup aNil)) (p2 gNe (p2 gAdd (p2 gIx (pName 0) (pCon (.int 0))) (p2 gIx (pName 0) (p1 gNeg (pCon (.int 1))))) (pCon (.int 0))))))
def F_is_ring : List S → Out := fnF 1 [] B_is_ring
def B_ring_of : FS := (sSeq (sSet 1 (mPP (pCon (.int 0)))) (sSeq (whileF (tMT (tAnd (tVal (p2 gLt (pName 1) (p2 gSub (p2 gSub (pCa gLen (aCons (pName 0) aNil)) (pCon (.int 1))) (pName 1)))) (tVal (p2 gEq (p2 gAdd (p2 gIx (pName 0) (pName 1)) (p2 gIx (pName 0) (p2 gSub (p2 gSub (pCa gLen (aCons (pName 0) aNil)) (pCon (.int 1))) (pName 1)))) (pCon (.int 0)))))) (sSet 1 (mPP (p2 gAdd (pName 1) (pCon (.int 1))))) FUEL) (sRet (mPP (pTup (aCons (pSl (pName 0) oNone (oSome (pName 1))) (aCons (pSl (pName 0) (oSome (pName 1)) (oSome (p2 gSub (pCa gLen (aCons (pName 0) aNil)) (pName 1)))) aNil)))))))
def F_ring_of : List S → Out := fnF 2 [] B_ring_of
def B_turns_of : FS := (sRet (mPP (pLc [1] (iRg1 (aCons (pCa gLen (aCons (pName 0) aNil)) aNil)) (gNm 1) tAll (p2 gAdd (pSl (pName 0) (oSome (pName 1)) oNone) (pSl (pName 0) oNone (oSome (pName 1)))))))
def F_turns_of : List S → Out := fnF 2 [] B_turns_of
def B__law_pot : FS := (sSeq (sSet 2 (mPP (p2 gAdd (p2 gMul (pCon (.int 1301)) (pName 1)) (pCon (.int 9601))))) (sSeq (sIf (tMT (tVal (p2 gLt (pName 1) (pCa gLen (aCons (pName 0) aNil))))) (sSet 2 (mPP (pCa gAbs (aCons (p2 gIx (pName 0) (pName 1)) aNil)))) sNil) (sRet (mPP (pLst (aCons (pCa gMax2 (aCons (pCon (.int 0)) (aCons (p2 gSub (pName 2) (p2 gPow (pCon (.int 10)) (pCon (.int 18)))) aNil))) (aCons (p2 gAdd (p2 gMod (pCa gInt (aCons (p2 gAdd (p2 gAdd (p2 gMul (p2 gMod (pCa gInt (aCons (pName 2) aNil)) (pCon (.int 2147483549))) (pCon (.int 40014))) (p2 gMul (pCon (.int 9601)) (pName 1))) (pCon (.int 61))) aNil)) (pCon (.int 2147483563))) (pCon (.int 1))) aNil)))))))
def F__law_pot : List S → Out := fnF 3 [] B__law_pot
def B__law_draw : FS := (sSeq (sIf (tMT (tVal (p2 gGt (p2 gIx (pName 0) (pCon (.int 0))) (pCon (.int 0))))) (sSeq (sAsg (mPP (pCa gDivmod (aCons (p2 gIx (pName 0) (pCon (.int 0))) (aCons (pName 1) aNil)))) (gTp 2 (gsCons (gSet 0 (pCon (.int 0))) (gsCons (gNm 2) gsNil)))) (sRet (mPP (pName 2)))) sNil) (sSeq (sAsg (mPP (p2 gMod (pCa gInt (aCons (p2 gAdd (p2 gMul (p2 gIx (pName 0) (pCon (.int 1))) (pCon (.int 39373))) (pCon (.int 1303))) aNil)) (pCon (.int 2147483587)))) (gSet 0 (pCon (.int 1)))) (sRet (mPP (p2 gMod (pCa gInt (aCons (p2 gFdiv (p2 gMod (pCa gInt (aCons (p2 gMul (p2 gIx (pName 0) (pCon (.int 1))) (p2 gIx (pName 0) (pCon (.int 1)))) aNil)) (pCon (.int 2147483563))) (pCon (.int 19))) aNil)) (pName 1))))))
def F__law_draw : List S → Out := fnF 3 [0] B__law_draw
def B__law_letters : FS := (sSeq (sSetO 1 (mPP (pLst aNil))) (sSeq (sFor (iRg2 (aCons (pCon (.int 1)) (aCons (p2 gAdd (pName 0) (pCon (.int 1))) aNil))) (gNm 2) (sExpr (mMt 1 gExt (mPP (pLst (aCons (pName 2) (aCons (p2 gSub (pCon (.int 0)) (pName 2)) aNil))))))) (sRetMv 1)))
def F__law_letters : List S → Out := fnF 3 [] B__law_letters
def B__law_reduced : FS := (sSeq (sAsg (mPP (pTup (aCons (pCa gTuple (aCons (pName 0) aNil)) (aCons (pCon (.bl true)) aNil)))) (gTp 2 (gsCons (gNm 1) (gsCons (gNm 2) gsNil)))) (sSeq (whileF (tMT (tVal (pName 2))) (sSeq (sSet 3 (mPP (pLc [4] (iRg1 (aCons (p2 gSub (pCa gLen (aCons (pName 1) aNil)) (pCon (.int 1))) aNil)) (gNm 4) (tVal (p2 gEq (p2 gIx (pName 1) (pName 4)) (p2 gSub (pCon (.int 0)) (p2 gIx (pName 1) (p2 gAdd (pName 4) (pCon (.int 1))))))) (pName 4)))) (sSeq (sSet 2 (mPP (p2 gNe (pName 3) (pLst aNil)))) (sSet 1 (mPP (pIf (tVal (pName 2)) (p2 gAdd (pSl (pName 1) oNone (oSome (p2 gIx (pName 3) (pCon (.int 0))))) (pSl (pName 1) (oSome (p2 gAdd (p2 gIx (pName 3) (pCon (.int 0))) (pCon (.int 2)))) oNone)) (pName 1)))))) FUEL) (sRet (mPP (pName 1)))))
def F__law_reduced : List S → Out := fnF 5 [] B__law_reduced
def B__law_undone : FS := (sRet (mPP (pCa gTuple (aCons (pLc [1] (iSeq (pRev (pName 0))) (gNm 1) tAll (p2 gSub (pCon (.int 0)) (pName 1))) aNil))))
def F__law_undone : List S → Out := fnF 2 [] B__law_undone
def B__law_ring : FS := (sSeq (sPar 1 2 (arFz (mPP (pTup aNil)) (arFz (mPP (pName 0)) arNil))) (sSeq (whileF (tMT (tAnd (tVal (p2 gGt (pCa gLen (aCons (pName 2) aNil)) (pCon (.int 1)))) (tVal (p2 gEq (p2 gIx (pName 2) (pCon (.int 0))) (p2 gSub (pCon (.int 0)) (p2 gIx (pName 2) (p1 gNeg (pCon (.int 1))))))))) (sPar 1 2 (arFz (mPP (p2 gAdd (pName 1) (pSl (pName 2) oNone (oSome (pCon (.int 1)))))) (arFz (mPP (pSl (pName 2) (oSome (pCon (.int 1))) (oSome (p1 gNeg (pCon (.int 1)))))) arNil))) FUEL) (sRet (mPP (pTup (aCons (pName 1) (aCons (pName 2) aNil)))))))
def F__law_ring : List S → Out := fnF 3 [] B__law_ring
def B__law_part : FS := (sSeq (sSet 1 (mPP (pLc [2] (iRg2 (aCons (pCon (.int 1)) (aCons (p2 gAdd (pCa gLen (aCons (pName 0) aNil)) (pCon (.int 1))) aNil))) (gNm 2) (tVal (p2 gEq (p2 gMul (pSl (pName 0) oNone (oSome (pName 2))) (p2 gFdiv (pCa gLen (aCons (pName 0) aNil)) (pName 2))) (pName 0))) (pName 2)))) (sRet (mPP (pSl (pName 0) oNone (oSome (p2 gIx (pName 1) (pCon (.int 0))))))))
def F__law_part : List S → Out := fnF 3 [] B__law_part
def B_is_letter : FS := (sRet (mPP (pAnd (pFd F_is_integer (aCons (pName 1) aNil)) (pChain gLe gLe (pCon (.int 1)) (pCa gAbs (aCons (pName 1) aNil)) (pName 0)))))
def F_is_letter : List S → Out := fnF 2 [] B_is_letter
def B_want_rank : FS := (sIf (tMT (tOr (tNot (tVal (pFd F_is_integer (aCons (pName 0) aNil)))) (tNot (tVal (pChain gLe gLe (pCon (.int 1)) (pName 0) (pCon (.int 4))))))) sStuck sNil)
def F_want_rank : List S → Out := fnF 1 [] B_want_rank
def B_want_told : FS := (sSeq (sExpr (mPP (pFd F_want_at_most (aCons (pCon (.str "letters")) (aCons (pCon (.int 60)) (aCons (pCa gLen (aCons (pName 0) aNil)) aNil)))))) (sRet (mPP (pName 0))))
def F_want_told : List S → Out := fnF 1 [] B_want_told
def B_order_key : FS := (sRet (mPP (pTup (aCons (pCa gLen (aCons (pName 0) aNil)) (aCons (pLc [1] (iSeq (pName 0)) (gNm 1) tAll (pFd F_letter_place (aCons (pName 1) aNil))) aNil)))))
def F_order_key : List S → Out := fnF 2 [] B_order_key
def B_put_together : FS := (sSeq (sSetO 1 (mPP (pLst aNil))) (sSeq (sFor (iSeq (pName 0)) (gNm 2) (sExpr (mMt 1 gExt (mPP (pCa gList (aCons (pName 2) aNil)))))) (sRet (mPP (pFd F_reduced_of (aCons (pName 1) aNil))))))
def F_put_together : List S → Out := fnF 3 [] B_put_together
def B__law_pick : FS := (sRet (m2 gIx (mPP (pName 1)) (mFd 2 F__law_draw (arBw 0 (arFz (mPP (pCa gLen (aCons (pName 1) aNil))) arNil)))))
def F__law_pick : List S → Out := fnF 2 [0] B__law_pick
def B__law_product : FS := (sSeq (sSet 1 (mPP (pTup aNil))) (sSeq (sFor (iSeq (pName 0)) (gNm 2) (sSet 1 (mPP (pFd F__law_reduced (aCons (p2 gAdd (pName 1) (pCa gTuple (aCons (pName 2) aNil))) aNil))))) (sRet (mPP (pName 1)))))
def F__law_product : List S → Out := fnF 3 [] B__law_product
def B__law_turns : FS := (sSeq (sPar 2 3 (arOw (mPP (pLst aNil)) (arFz (mPP (pFd F__law_letters (aCons (pName 0) aNil))) arNil))) (sSeq (sFor (iRg1 (aCons (pCa gMax2 (aCons (pCon (.int 1)) (aCons (pCa gLen (aCons (pName 1) aNil)) aNil))) aNil)) (gNm 4) (sSeq (sSet 5 (mPP (p2 gAdd (pSl (pName 1) (oSome (pName 4)) oNone) (pSl (pName 1) oNone (oSome (pName 4)))))) (sIf (tMT (tVal (p2 gNotIn (pName 5) (pName 2)))) (sExpr (mMt 2 gApp (mPP (pName 5)))) sNil))) (sSeq (sSet 6 (mPP (pCa gSorted (aCons (pLc [5] (iSeq (pName 2)) (gNm 5) tAll (pTup (aCons (pLc [7] (iSeq (pName 5)) (gNm 7) tAll (pLi (pName 3) (pName 7))) (aCons (pName 5) aNil)))) aNil)))) (sRet (mPP (pLc [8, 5] (iSeq (pName 6)) (gTp 2 (gsCons (gNm 8) (gsCons (gNm 5) gsNil))) tAll (pName 5)))))))
def F__law_turns : List S → Out := fnF 9 [] B__law_turns
def B_is_row : FS := (sRet (mPP (pAnd (pIsi .tuple (pName 1)) (pAnd (p2 gLe (pCa gLen (aCons (pName 1) aNil)) (pCon (.int 240))) (pCa gAll (aCons (pLc [2] (iSeq (pName 1)) (gNm 2) tAll (pFd F_is_letter (aCons (pName 0) (aCons (pName 2) aNil)))) aNil))))))
def F_is_row : List S → Out := fnF 3 [] B_is_row
def B_power_of : FS := (sRet (mPP (pFd F_put_together (aCons (p2 gMul (pLst (aCons (pIf (tVal (p2 gGt (pName 1) (pCon (.int 0)))) (pName 0) (pFd F_undone_of (aCons (pName 0) aNil))) aNil)) (pCa gAbs (aCons (pName 1) aNil))) aNil))))
def F_power_of : List S → Out := fnF 2 [] B_power_of
def B_led_of : FS := (sRet (mPP (pFd F_put_together (aCons (pLst (aCons (pFd F_undone_of (aCons (pName 1) aNil)) (aCons (pName 0) (aCons (pName 1) aNil)))) aNil))))
def F_led_of : List S → Out := fnF 2 [] B_led_of
def B__law_word : FS := (sSeq (sSet 3 (mPP (pTup aNil))) (sSeq (sFor (iRg1 (aCons (pName 2) aNil)) (gNm 4) (sSeq (sSet 5 (mPP (pLc [6] (iSeq (pFd F__law_letters (aCons (pName 1) aNil))) (gNm 6) (tOr (tVal (p2 gEq (pName 3) (pTup aNil))) (tVal (p2 gNe (pName 6) (p2 gSub (pCon (.int 0)) (p2 gIx (pName 3) (p1 gNeg (pCon (.int 1)))))))) (pName 6)))) (sSet 3 (m2 gAdd (mPP (pName 3)) (mTup (lCons (mFd 2 F__law_pick (arBw 0 (arFz (mPP (pName 5)) arNil))) lNil)))))) (sRet (mPP (pName 3)))))
def F__law_word : List S → Out := fnF 7 [0] B__law_word
def B_is_word : FS := (sRet (mPP (pAnd (pFd F_is_row (aCons (pName 0) (aCons (pName 1) aNil))) (pAnd (p2 gLe (pCa gLen (aCons (pName 1) aNil)) (pCon (.int 60))) (pFd F_is_reduced (aCons (pName 1) aNil))))))
def F_is_word : List S → Out := fnF 2 [] B_is_word
def B_leader_of : FS := (sSeq (sAsg (mPP (pTup (aCons (pFd F_ring_of (aCons (pName 0) aNil)) (aCons (pFd F_ring_of (aCons (pName 1) aNil)) aNil)))) (gTp 2 (gsCons (gTp 2 (gsCons (gNm 2) (gsCons (gNm 3) gsNil))) (gsCons (gTp 2 (gsCons (gNm 4) (gsCons (gNm 5) gsNil))) gsNil)))) (sSeq (sIf (tMT (tVal (p2 gNe (pCa gLen (aCons (pName 3) aNil)) (pCa gLen (aCons (pName 5) aNil))))) (sRet (mPP (pCon .non))) sNil) (sSeq (sIf (tMT (tVal (p2 gEq (pName 3) (pTup aNil)))) (sRet (mPP (pTup aNil))) sNil) (sSeq (sSet 6 (mPP (pLc [8, 9] (iEnm (aCons (pFd F_turns_of (aCons (pName 3) aNil)) aNil)) (gTp 2 (gsCons (gNm 8) (gsCons (gNm 9) gsNil))) (tVal (p2 gEq (pName 9) (pName 5))) (pName 8)))) (sSeq (sIf (tMT (tVal (p2 gEq (pName 6) (pLst aNil)))) (sRet (mPP (pCon .non))) sNil) (sSeq (sSetO 7 (mPP (pLc [8] (iSeq (pName 6)) (gNm 8) tAll (pFd F_put_together (aCons (pLst (aCons (pName 2) (aCons (pSl (pName 3) oNone (oSome (pName 8))) (aCons (pFd F_undone_of (aCons (pName 4) aNil)) aNil)))) aNil))))) (sSeq (sExpr (mMt 7 gExt (mPP (pLc [8] (iSeq (pName 6)) (gNm 8) tAll (pFd F_put_together (aCons (pLst (aCons (pName 2) (aCons (pFd F_undone_of (aCons (pSl (pName 3) (oSome (pName 8)) oNone) aNil)) (aCons (pFd F_undone_of (aCons (pName 4) aNil)) aNil)))) aNil)))))) (sRet (mPP (p2 gIx (pSortK F_order_key (pName 7)) (pCon (.int 0))))))))))))
def F_leader_of : List S → Out := fnF 10 [] B_leader_of
def B_want_word : FS := (sIf (tMT (tNot (tVal (pFd F_is_word (aCons (pName 0) (aCons (pName 1) aNil)))))) sStuck sNil)
def F_want_word : List S → Out := fnF 2 [] B_want_word
def B_want_words : FS := (sIf (tMT (tOr (tNot (tVal (pFd F_is_list (aCons (pName 1) aNil)))) (tOr (tVal (p2 gGt (pCa gLen (aCons (pName 1) aNil)) (pCon (.int 40)))) (tNot (tVal (pCa gAll (aCons (pLc [2] (iSeq (pName 1)) (gNm 2) tAll (pFd F_is_word (aCons (pName 0) (aCons (pName 2) aNil)))) aNil))))))) sStuck sNil)
def F_want_words : List S → Out := fnF 3 [] B_want_words
def B_want_ranked : FS := (sSeq (sExpr (mPP (pFd F_want_rank (aCons (pName 0) aNil)))) (sExpr (mPP (pFd F_want_word (aCons (pName 0) (aCons (pName 1) aNil))))))
def F_want_ranked : List S → Out := fnF 2 [] B_want_ranked
def B_product : FS := (sSeq (sExpr (mPP (pFd F_want_rank (aCons (pName 0) aNil)))) (sSeq (sExpr (mPP (pFd F_want_words (aCons (pName 0) (aCons (pName 1) aNil))))) (sRet (mPP (pFd F_want_told (aCons (pFd F_put_together (aCons (pName 1) aNil)) aNil))))))
def F_product : List S → Out := fnF 2 [] B_product
def B_power : FS := (sSeq (sExpr (mPP (pFd F_want_ranked (aCons (pName 0) (aCons (pName 1) aNil))))) (sSeq (sIf (tMT (tOr (tNot (tVal (pFd F_is_integer (aCons (pName 2) aNil)))) (tVal (p2 gGt (pCa gAbs (aCons (pName 2) aNil)) (pCon (.int 99)))))) sStuck sNil) (sRet (mPP (pFd F_want_told (aCons (pFd F_power_of (aCons (pName 1) (aCons (pName 2) aNil))) aNil))))))
def F_power : List S → Out := fnF 3 [] B_power
def B_is_before : FS := (sSeq (sExpr (mPP (pFd F_want_ranked (aCons (pName 0) (aCons (pName 1) aNil))))) (sSeq (sExpr (mPP (pFd F_want_word (aCons (pName 0) (aCons (pName 2) aNil))))) (sRet (mPP (p2 gLtD (pFd F_order_key (aCons (pName 1) aNil)) (pFd F_order_key (aCons (pName 2) aNil)))))))
def F_is_before : List S → Out := fnF 3 [] B_is_before
def B_want_two : FS := (sSeq (sExpr (mPP (pFd F_want_ranked (aCons (pName 0) (aCons (pName 1) aNil))))) (sExpr (mPP (pFd F_want_word (aCons (pName 0) (aCons (pName 2) aNil))))))
def F_want_two : List S → Out := fnF 3 [] B_want_two
def B_is_ring_word : FS := (sSeq (sExpr (mPP (pFd F_want_ranked (aCons (pName 0) (aCons (pName 1) aNil))))) (sRet (mPP (pFd F_is_ring (aCons (pName 1) aNil)))))
def F_is_ring_word : List S → Out := fnF 2 [] B_is_ring_word
def B_ring_core : FS := (sSeq (sExpr (mPP (pFd F_want_ranked (aCons (pName 0) (aCons (pName 1) aNil))))) (sRet (mPP (pFd F_ring_of (aCons (pName 1) aNil)))))
def F_ring_core : List S → Out := fnF 2 [] B_ring_core
def B_ring_turns : FS := (sSeq (sExpr (mPP (pFd F_want_ranked (aCons (pName 0) (aCons (pName 1) aNil))))) (sSeq (sSet 2 (mPP (p2 gIx (pFd F_ring_of (aCons (pName 1) aNil)) (pCon (.int 1))))) (sRet (mPP (pIf (tVal (p2 gNe (pName 2) (pTup aNil))) (pSortD F_order_key [3] (iSeq (pFd F_turns_of (aCons (pName 2) aNil))) (gNm 3) (pName 3)) (pLst (aCons (pTup aNil) aNil)))))))
def F_ring_turns : List S → Out := fnF 4 [] B_ring_turns
def B_led : FS := (sSeq (sExpr (mPP (pFd F_want_two (aCons (pName 0) (aCons (pName 1) (aCons (pName 2) aNil)))))) (sRet (mPP (pFd F_want_told (aCons (pFd F_led_of (aCons (pName 1) (aCons (pName 2) aNil))) aNil)))))
def F_led : List S → Out := fnF 3 [] B_led
def B_are_led : FS := (sSeq (sExpr (mPP (pFd F_want_two (aCons (pName 0) (aCons (pName 1) (aCons (pName 2) aNil)))))) (sRet (mPP (p2 gIsNot (pFd F_leader_of (aCons (pName 1) (aCons (pName 2) aNil))) (pCon .non)))))
def F_are_led : List S → Out := fnF 3 [] B_are_led
def B__law_one_right : FS := (sSeq (sAsg (mPP (pFd F__law_ring (aCons (pName 1) aNil))) (gTp 2 (gsCons (gNm 2) (gsCons (gNm 3) gsNil)))) (sSeq (sIf (tMT (tVal (p2 gNe (pCa gRepr (aCons (pLst (aCons (pFd F_ring_core (aCons (pName 0) (aCons (pName 1) aNil))) (aCons (pFdK F_ring_core (permG 0 2 [1, 0]) 2 aNil (aCons (pName 1) (aCons (pName 0) aNil))) aNil))) aNil)) (pCa gRepr (aCons (p2 gMul (pLst (aCons (pTup (aCons (pName 2) (aCons (pName 3) aNil))) aNil)) (pCon (.int 2))) aNil))))) (sRet (mPP (pCon (.bl false)))) sNil) (sSeq (sIf (tMT (tOr (tVal (p2 gNe (p2 gAdd (p2 gAdd (pName 2) (pName 3)) (pFd F__law_undone (aCons (pName 2) aNil))) (pName 1))) (tVal (p2 gNe (p2 gEq (pName 3) (pTup aNil)) (p2 gEq (pName 1) (pTup aNil)))))) (sRet (mPP (pCon (.bl false)))) sNil) (sSeq (sSet 4 (mPP (p2 gEq (pName 2) (pTup aNil)))) (sSeq (sIf (tMT (tVal (p2 gNe (pCa gRepr (aCons (pLst (aCons (pFd F_is_ring_word (aCons (pName 0) (aCons (pName 1) aNil))) (aCons (pFdK F_is_ring_word (permG 0 2 [1, 0]) 2 aNil (aCons (pName 1) (aCons (pName 0) aNil))) (aCons (pFd F_is_ring_word (aCons (pName 0) (aCons (pName 3) aNil))) aNil)))) aNil)) (pCa gRepr (aCons (pLst (aCons (pName 4) (aCons (pName 4) (aCons (pCon (.bl true)) aNil)))) aNil))))) (sRet (mPP (pCon (.bl false)))) sNil) (sSeq (sFor (iSeq (pTup (aCons (pCon (.int 2)) (aCons (pCon (.int 3)) (aCons (p1 gNeg (pCon (.int 2))) aNil))))) (gNm 5) (sSeq (sSet 6 (mPP (pIf (tVal (p2 gGt (pName 5) (pCon (.int 0)))) (pName 3) (pFd F__law_undone (aCons (pName 3) aNil))))) (sSeq (sSet 7 (mPP (pIf (tVal (p2 gNe (pName 3) (pTup aNil))) (p2 gAdd (p2 gAdd (pName 2) (p2 gMul (pName 6) (pCa gAbs (aCons (pName 5) aNil)))) (pFd F__law_undone (aCons (pName 2) aNil))) (pTup aNil)))) (sIf (tMT (tAnd (tVal (p2 gLe (pCa gLen (aCons (pName 7) aNil)) (pCon (.int 60)))) (tVal (p2 gNe (pFd F_power (aCons (pName 0) (aCons (pName 1) (aCons (pName 5) aNil)))) (pName 7))))) (sRet (mPP (pCon (.bl false)))) sNil)))) (sSeq (sSet 8 (mPP (pFd F__law_turns (aCons (pName 0) (aCons (pName 3) aNil))))) (sSeq (sSetO 9 (mPP (pFd F_ring_turns (aCons (pName 0) (aCons (pName 1) aNil))))) (sSeq (sIf (tMT (tVal (p2 gNe (pView 9 (pCa gRepr (aCons (pLst (aCons (pName 9) (aCons (pFdK F_ring_turns (permG 0 2 [1, 0]) 2 aNil (aCons (pName 1) (aCons (pName 0) aNil))) aNil))) aNil))) (pCa gRepr (aCons (pLst (aCons (pName 8) (aCons (pName 8) aNil))) aNil))))) (sRet (mPP (pCon (.bl false)))) sNil) (sSeq (sExpr (mMt 9 gApp (mPP (pCon .non)))) (sSeq (sIf (tMT (tOr (tVal (p2 gNe (pCa gRepr (aCons (pFd F_ring_turns (aCons (pName 0) (aCons (pName 1) aNil))) aNil)) (pCa gRepr (aCons (pName 8) aNil)))) (tNot (tVal (pCa gAll (aCons (pLc [11, 12] (iZip (aCons (pName 8) (aCons (pSl (pName 8) (oSome (pCon (.int 1))) oNone) aNil))) (gTp 2 (gsCons (gNm 11) (gsCons (gNm 12) gsNil))) tAll (pFd F_is_before (aCons (pName 0) (aCons (pName 11) (aCons (pName 12) aNil))))) aNil)))))) (sRet (mPP (pCon (.bl false)))) sNil) (sSeq (sFor (iRg1 (aCons (pCa gLen (aCons (pName 3) aNil)) aNil)) (gNm 10) (sIf (tMT (tOr (tVal (p2 gNotIn (pFd F_led (aCons (pName 0) (aCons (pName 3) (aCons (pSl (pName 3) oNone (oSome (pName 10))) aNil)))) (pName 8))) (tVal (p2 gNe (pFd F_led (aCons (pName 0) (aCons (pName 3) (aCons (pSl (pName 3) oNone (oSome (pName 10))) aNil)))) (p2 gAdd (pSl (pName 3) (oSome (pName 10)) oNone) (pSl (pName 3) oNone (oSome (pName 10)))))))) (sRet (mPP (pCon (.bl false)))) sNil)) (sSeq (sIf (tMT (tAnd (tVal (p2 gNe (pName 3) (pTup aNil))) (tVal (p2 gNe (pCa gLen (aCons (pName 3) aNil)) (p2 gMul (pCa gLen (aCons (pName 8) aNil)) (pIf (tVal (p2 gGt (pCa gLen (aCons (pName 3) aNil)) (pCon (.int 0)))) (p2 gFdiv (pCa gLen (aCons (pName 3) aNil)) (pCa gLen (aCons (pFd F__law_part (aCons (pName 3) aNil)) aNil))) (pCon (.int 1)))))))) (sRet (mPP (pCon (.bl false)))) sNil) (sRet (mPP (pCa gAll (aCons (pLc [13] (iSeq (pName 8)) (gNm 13) tAll (pFd F_are_led (aCons (pName 0) (aCons (pName 1) (aCons (pName 13) aNil))))) aNil)))))))))))))))))
def F__law_one_right : List S → Out := fnF 14 [] B__law_one_right
def B__law_right : FS := (sSeq (sSet 1 (m2 gAdd (mPP (pCon (.int 1))) (mFd 2 F__law_draw (arBw 0 (arFz (mPP (pCon (.int 4))) arNil))))) (sSeq (sSet 2 (mFd 3 F__law_word (arBw 0 (arFz (mPP (pName 1)) (arFz (m2 gAdd (mPP (pCon (.int 1))) (mFd 2 F__law_draw (arBw 0 (arFz (mPP (pCon (.int 4))) arNil)))) arNil))))) (sSeq (sSet 3 (mFd 3 F__law_word (arBw 0 (arFz (mPP (pName 1)) (arFz (mFd 2 F__law_draw (arBw 0 (arFz (mPP (pCon (.int 6))) arNil))) arNil))))) (sSeq (sSet 4 (mLst (lCons (mPP (pTup aNil)) (lCons (mFd 3 F__law_word (arBw 0 (arFz (mPP (pName 1)) (arFz (mFd 2 F__law_draw (arBw 0 (arFz (mPP (pCon (.int 25))) arNil))) arNil)))) (lCons (mPP (pName 2)) (lCons (mPP (pFd F__law_product (aCons (pLst (aCons (pName 3) (aCons (pName 2) (aCons (pFd F__law_undone (aCons (pName 3) aNil)) aNil)))) aNil))) lNil)))))) (sSeq (sSet 4 (m2 gAdd (mPP (pName 4)) (mLst (lCons (mFd 1 F__law_product (arFz (m2 gMul (mPP (pLst (aCons (pName 2) aNil))) (m2 gAdd (mPP (pCon (.int 1))) (mFd 2 F__law_draw (arBw 0 (arFz (mPP (pCon (.int 5))) arNil))))) arNil)) (lCons (mPP (pFd F__law_product (aCons (p2 gAdd (p2 gAdd (pLst (aCons (pName 3) aNil)) (p2 gMul (pLst (aCons (pName 2) aNil)) (pCon (.int 3)))) (pLst (aCons (pFd F__law_undone (aCons (pName 3) aNil)) aNil))) aNil))) lNil))))) (sSeq (sIf (tMT (tNot (tVal (pCa gAll (aCons (pLc [5] (iSeq (pName 4)) (gNm 5) tAll (pFd F__law_one_right (aCons (pName 1) (aCons (pName 5) aNil)))) aNil))))) (sRet (mPP (pCon (.bl false)))) sNil) (sRet (mPP (p2 gEq (pFd F_product (aCons (pName 1) (aCons (p2 gMul (pLst (aCons (p2 gIx (pName 4) (pCon (.int 3))) aNil)) (pCon (.int 3))) aNil))) (p2 gIx (pName 4) (pCon (.int 5))))))))))))
def F__law_right : List S → Out := fnF 6 [0] B__law_right
def B_law : FS := (sRet (mCa gAll (lCons (mLc [1] (iRg1 (aCons (pCa gMax2 (aCons (pCon (.int 1)) (aCons (pCa gMin2 (aCons (pCon (.int 2)) (aCons (pCa gLen (aCons (pName 0) aNil)) aNil))) aNil))) aNil)) (gNm 1) tAll (mFd 1 F__law_right (arOw (mPP (pFd F__law_pot (aCons (pName 0) (aCons (pName 1) aNil)))) arNil))) lNil)))
def F_law : List S → Out := fnF 2 [] B_law
/-! ## the text -/
def topS (i : Nat) : Stmt := PySem.Challenge.pw_wordhandfuls_k14_whole_rings_heads_and_t.main.body.getD i (.Pass ⟨0, 0, 0, 0⟩)
def d_is_integer : He.DefD := ⟨("is_integer", none), "is_integer", "is_integer", defArgs (topS 9), defBody (topS 9), defScope (topS 9), [], []⟩
def d_is_list : He.DefD := ⟨("is_list", none), "is_list", "is_list", defArgs (topS 10), defBody (topS 10), defScope (topS 10), [], []⟩
def d_want_at_most : He.DefD := ⟨("want_at_most", none), "want_at_most", "want_at_most", defArgs (topS 11), defBody (topS 11), defScope (topS 11), [], []⟩
def d_is_reduced : He.DefD := ⟨("is_reduced", none), "is_reduced", "is_reduced", defArgs (topS 20), defBody (topS 20), defScope (topS 20), [], []⟩
def d_letter_place : He.DefD := ⟨("letter_place", none), "letter_place", "letter_place", defArgs (topS 27), defBody (topS 27), defScope (topS 27), [], []⟩
def d_reduced_of : He.DefD := ⟨("reduced_of", none), "reduced_of", "reduced_of", defArgs (topS 29), defBody (topS 29), defScope (topS 29), [], []⟩
def d_undone_of : He.DefD := ⟨("undone_of", none), "undone_of", "undone_of", defArgs (topS 30), defBody (topS 30), defScope (topS 30), [], []⟩
def d_is_ring : He.DefD := ⟨("is_ring", none), "is_ring", "is_ring", defArgs (topS 37), defBody (topS 37), defScope (topS 37), [], []⟩
def d_ring_of : He.DefD := ⟨("ring_of", none), "ring_of", "ring_of", defArgs (topS 38), defBody (topS 38), defScope (topS 38), [], []⟩
def d_turns_of : He.DefD := ⟨("turns_of", none), "turns_of", "turns_of", defArgs (topS 39), defBody (topS 39), defScope (topS 39), [], []⟩
def d__law_pot : He.DefD := ⟨("_law_pot", none), "_law_pot", "_law_pot", defArgs (topS 49), defBody (topS 49), defScope (topS 49), [], []⟩
def d__law_draw : He.DefD := ⟨("_law_draw", none), "_law_draw", "_law_draw", defArgs (topS 50), defBody (topS 50), defScope (topS 50), [], []⟩
def d__law_letters : He.DefD := ⟨("_law_letters", none), "_law_letters", "_law_letters", defArgs (topS 53), defBody (topS 53), defScope (topS 53), [], []⟩
def d__law_reduced : He.DefD := ⟨("_law_reduced", none), "_law_reduced", "_law_reduced", defArgs (topS 54), defBody (topS 54), defScope (topS 54), [], []⟩
def d__law_undone : He.DefD := ⟨("_law_undone", none), "_law_undone", "_law_undone", defArgs (topS 55), defBody (topS 55), defScope (topS 55), [], []⟩
def d__law_ring : He.DefD := ⟨("_law_ring", none), "_law_ring", "_law_ring", defArgs (topS 59), defBody (topS 59), defScope (topS 59), [], []⟩
def d__law_part : He.DefD := ⟨("_law_part", none), "_law_part", "_law_part", defArgs (topS 60), defBody (topS 60), defScope (topS 60), [], []⟩
def d_is_letter : He.DefD := ⟨("is_letter", none), "is_letter", "is_letter", defArgs (topS 18), defBody (topS 18), defScope (topS 18), [], []⟩
def d_want_rank : He.DefD := ⟨("want_rank", none), "want_rank", "want_rank", defArgs (topS 22), defBody (topS 22), defScope (topS 22), [], []⟩
def d_want_told : He.DefD := ⟨("want_told", none), "want_told", "want_told", defArgs (topS 26), defBody (topS 26), defScope (topS 26), [], []⟩
def d_order_key : He.DefD := ⟨("order_key", none), "order_key", "order_key", defArgs (topS 28), defBody (topS 28), defScope (topS 28), [], []⟩
def d_put_together : He.DefD := ⟨("put_together", none), "put_together", "put_together", defArgs (topS 31), defBody (topS 31), defScope (topS 31), [], []⟩
def d__law_pick : He.DefD := ⟨("_law_pick", none), "_law_pick", "_law_pick", defArgs (topS 51), defBody (topS 51), defScope (topS 51), [], []⟩
def d__law_product : He.DefD := ⟨("_law_product", none), "_law_product", "_law_product", defArgs (topS 56), defBody (topS 56), defScope (topS 56), [], []⟩
def d__law_turns : He.DefD := ⟨("_law_turns", none), "_law_turns", "_law_turns", defArgs (topS 61), defBody (topS 61), defScope (topS 61), [], []⟩
def d_is_row : He.DefD := ⟨("is_row", none), "is_row", "is_row", defArgs (topS 19), defBody (topS 19), defScope (topS 19), [], []⟩
def d_power_of : He.DefD := ⟨("power_of", none), "power_of", "power_of", defArgs (topS 32), defBody (topS 32), defScope (topS 32), [], []⟩
def d_led_of : He.DefD := ⟨("led_of", none), "led_of", "led_of", defArgs (topS 41), defBody (topS 41), defScope (topS 41), [], []⟩
def d__law_word : He.DefD := ⟨("_law_word", none), "_law_word", "_law_word", defArgs (topS 58), defBody (topS 58), defScope (topS 58), [], []⟩
def d_is_word : He.DefD := ⟨("is_word", none), "is_word", "is_word", defArgs (topS 21), defBody (topS 21), defScope (topS 21), [], []⟩
def d_leader_of : He.DefD := ⟨("leader_of", none), "leader_of", "leader_of", defArgs (topS 40), defBody (topS 40), defScope (topS 40), [], []⟩
def d_want_word : He.DefD := ⟨("want_word", none), "want_word", "want_word", defArgs (topS 23), defBody (topS 23), defScope (topS 23), [], []⟩
def d_want_words : He.DefD := ⟨("want_words", none), "want_words", "want_words", defArgs (topS 24), defBody (topS 24), defScope (topS 24), [], []⟩
def d_want_ranked : He.DefD := ⟨("want_ranked", none), "want_ranked", "want_ranked", defArgs (topS 25), defBody (topS 25), defScope (topS 25), [], []⟩
def d_product : He.DefD := ⟨("product", none), "product", "product", defArgs (topS 33), defBody (topS 33), defScope (topS 33), [], []⟩
def d_power : He.DefD := ⟨("power", none), "power", "power", defArgs (topS 34), defBody (topS 34), defScope (topS 34), [], []⟩
def d_is_before : He.DefD := ⟨("is_before", none), "is_before", "is_before", defArgs (topS 35), defBody (topS 35), defScope (topS 35), [], []⟩
def d_want_two : He.DefD := ⟨("want_two", none), "want_two", "want_two", defArgs (topS 42), defBody (topS 42), defScope (topS 42), [], []⟩
def d_is_ring_word : He.DefD := ⟨("is_ring_word", none), "is_ring_word", "is_ring_word", defArgs (topS 43), defBody (topS 43), defScope (topS 43), [], []⟩
def d_ring_core : He.DefD := ⟨("ring_core", none), "ring_core", "ring_core", defArgs (topS 44), defBody (topS 44), defScope (topS 44), [], []⟩
def d_ring_turns : He.DefD := ⟨("ring_turns", none), "ring_turns", "ring_turns", defArgs (topS 45), defBody (topS 45), defScope (topS 45), [], []⟩
def d_led : He.DefD := ⟨("led", none), "led", "led", defArgs (topS 46), defBody (topS 46), defScope (topS 46), [], []⟩
def d_are_led : He.DefD := ⟨("are_led", none), "are_led", "are_led", defArgs (topS 47), defBody (topS 47), defScope (topS 47), [], []⟩
def d__law_one_right : He.DefD := ⟨("_law_one_right", none), "_law_one_right", "_law_one_right", defArgs (topS 62), defBody (topS 62), defScope (topS 62), [], []⟩
def d__law_right : He.DefD := ⟨("_law_right", none), "_law_right", "_law_right", defArgs (topS 63), defBody (topS 63), defScope (topS 63), [], []⟩
def d_law : He.DefD := ⟨("law", none), "law", "law", defArgs (topS 64), defBody (topS 64), defScope (topS 64), [], []⟩
theorem bn_is_integer : BindsA d_is_integer ["value"] := fun kV doc pm an cdv ct us hl => match us, hl with | [_], _ => rfl
theorem bn_is_list : BindsA d_is_list ["value"] := fun kV doc pm an cdv ct us hl => match us, hl with | [_], _ => rfl
theorem bn_want_at_most : BindsA d_want_at_most ["what", "limit", "number"] := fun kV doc pm an cdv ct us hl => match us, hl with | [_, _, _], _ => rfl
theorem bn_is_reduced : BindsA d_is_reduced ["row"] := fun kV doc pm an cdv ct us hl => match us, hl with | [_], _ => rfl
theorem bn_letter_place : BindsA d_letter_place ["letter"] := fun kV doc pm an cdv ct us hl => match us, hl with | [_], _ => rfl
theorem bn_reduced_of : BindsA d_reduced_of ["row"] := fun kV doc pm an cdv ct us hl => match us, hl with | [_], _ => rfl
theorem bn_undone_of : BindsA d_undone_of ["word"] := fun kV doc pm an cdv ct us hl => match us, hl with | [_], _ => rfl
theorem bn_is_ring : BindsA d_is_ring ["word"] := fun kV doc pm an cdv ct us hl => match us, hl with | [_], _ => rfl
theorem bn_ring_of : BindsA d_ring_of ["word"] := fun kV doc pm an cdv ct us hl => match us, hl with | [_], _ => rfl
theorem bn_turns_of : BindsA d_turns_of ["core"] := fun kV doc pm an cdv ct us hl => match us, hl with | [_], _ => rfl
theorem bn__law_pot : BindsA d__law_pot ["script", "k"] := fun kV doc pm an cdv ct us hl => match us, hl with | [_, _], _ => rfl
theorem bn__law_draw : BindsA d__law_draw ["pot", "many"] := fun kV doc pm an cdv ct us hl => match us, hl with | [_, _], _ => rfl
theorem bn__law_letters : BindsA d__law_letters ["rank"] := fun kV doc pm an cdv ct us hl => match us, hl with | [_], _ => rfl
theorem bn__law_reduced : BindsA d__law_reduced ["row"] := fun kV doc pm an cdv ct us hl => match us, hl with | [_], _ => rfl
theorem bn__law_undone : BindsA d__law_undone ["word"] := fun kV doc pm an cdv ct us hl => match us, hl with | [_], _ => rfl
theorem bn__law_ring : BindsA d__law_ring ["word"] := fun kV doc pm an cdv ct us hl => match us, hl with | [_], _ => rfl
theorem bn__law_part : BindsA d__law_part ["core"] := fun kV doc pm an cdv ct us hl => match us, hl with | [_], _ => rfl
theorem bn_is_letter : BindsA d_is_letter ["rank", "value"] := fun kV doc pm an cdv ct us hl => match us, hl with | [_, _], _ => rfl
theorem bn_want_rank : BindsA d_want_rank ["value"] := fun kV doc pm an cdv ct us hl => match us, hl with | [_], _ => rfl
theorem bn_want_told : BindsA d_want_told ["word"] := fun kV doc pm an cdv ct us hl => match us, hl with | [_], _ => rfl
theorem bn_order_key : BindsA d_order_key ["word"] := fun kV doc pm an cdv ct us hl => match us, hl with | [_], _ => rfl
theorem bn_put_together : BindsA d_put_together ["words"] := fun kV doc pm an cdv ct us hl => match us, hl with | [_], _ => rfl
theorem bn__law_pick : BindsA d__law_pick ["pot", "some"] := fun kV doc pm an cdv ct us hl => match us, hl with | [_, _], _ => rfl
theorem bn__law_product : BindsA d__law_product ["words"] := fun kV doc pm an cdv ct us hl => match us, hl with | [_], _ => rfl
theorem bn__law_turns : BindsA d__law_turns ["rank", "core"] := fun kV doc pm an cdv ct us hl => match us, hl with | [_, _], _ => rfl
theorem bn_is_row : BindsA d_is_row ["rank", "value"] := fun kV doc pm an cdv ct us hl => match us, hl with | [_, _], _ => rfl
theorem bn_power_of : BindsA d_power_of ["word", "many"] := fun kV doc pm an cdv ct us hl => match us, hl with | [_, _], _ => rfl
theorem bn_led_of : BindsA d_led_of ["word", "leader"] := fun kV doc pm an cdv ct us hl => match us, hl with | [_, _], _ => rfl
theorem bn__law_word : BindsA d__law_word ["pot", "rank", "many"] := fun kV doc pm an cdv ct us hl => match us, hl with | [_, _, _], _ => rfl
theorem bn_is_word : BindsA d_is_word ["rank", "value"] := fun kV doc pm an cdv ct us hl => match us, hl with | [_, _], _ => rfl
theorem bn_leader_of : BindsA d_leader_of ["word", "other"] := fun kV doc pm an cdv ct us hl => match us, hl with | [_, _], _ => rfl
theorem bn_want_word : BindsA d_want_word ["rank", "value"] := fun kV doc pm an cdv ct us hl => match us, hl with | [_, _], _ => rfl
theorem bn_want_words : BindsA d_want_words ["rank", "value"] := fun kV doc pm an cdv ct us hl => match us, hl with | [_, _], _ => rfl
theorem bn_want_ranked : BindsA d_want_ranked ["rank", "word"] := fun kV doc pm an cdv ct us hl => match us, hl with | [_, _], _ => rfl
theorem bn_product : BindsA d_product ["rank", "words"] := fun kV doc pm an cdv ct us hl => match us, hl with | [_, _], _ => rfl
theorem bn_power : BindsA d_power ["rank", "word", "exponent"] := fun kV doc pm an cdv ct us hl => match us, hl with | [_, _, _], _ => rfl
theorem bn_is_before : BindsA d_is_before ["rank", "word", "other"] := fun kV doc pm an cdv ct us hl => match us, hl with | [_, _, _], _ => rfl
theorem bn_want_two : BindsA d_want_two ["rank", "word", "other"] := fun kV doc pm an cdv ct us hl => match us, hl with | [_, _, _], _ => rfl
theorem bn_is_ring_word : BindsA d_is_ring_word ["rank", "word"] := fun kV doc pm an cdv ct us hl => match us, hl with | [_, _], _ => rfl
theorem bn_ring_core : BindsA d_ring_core ["rank", "word"] := fun kV doc pm an cdv ct us hl => match us, hl with | [_, _], _ => rfl
theorem bn_ring_turns : BindsA d_ring_turns ["rank", "word"] := fun kV doc pm an cdv ct us hl => match us, hl with | [_, _], _ => rfl
theorem bn_led : BindsA d_led ["rank", "word", "other"] := fun kV doc pm an cdv ct us hl => match us, hl with | [_, _, _], _ => rfl
theorem bn_are_led : BindsA d_are_led ["rank", "word", "other"] := fun kV doc pm an cdv ct us hl => match us, hl with | [_, _, _], _ => rfl
theorem bn__law_one_right : BindsA d__law_one_right ["rank", "word"] := fun kV doc pm an cdv ct us hl => match us, hl with | [_, _], _ => rfl
theorem bn__law_right : BindsA d__law_right ["pot"] := fun kV doc pm an cdv ct us hl => match us, hl with | [_], _ => rfl
theorem bn_law : BindsA d_law ["script"] := fun kV doc pm an cdv ct us hl => match us, hl with | [_], _ => rfl
theorem bk_ring_core_0_word_rank : BindsK d_ring_core ["rank", "word"] ["word", "rank"] (permG 0 2 [1, 0]) := fun kV doc pm an cdv ct us ws hl => match us, ws, permG_ok hl (by decide) with
  | [], [_, _], _ => rfl
theorem bk_is_ring_word_0_word_rank : BindsK d_is_ring_word ["rank", "word"] ["word", "rank"] (permG 0 2 [1, 0]) := fun kV doc pm an cdv ct us ws hl => match us, ws, permG_ok hl (by decide) with
  | [], [_, _], _ => rfl
theorem bk_ring_turns_0_word_rank : BindsK d_ring_turns ["rank", "word"] ["word", "rank"] (permG 0 2 [1, 0]) := fun kV doc pm an cdv ct us ws hl => match us, ws, permG_ok hl (by decide) with
  | [], [_, _], _ => rfl
/-! ## what the head says -/
structure Fx (K : PySem.W.Frag) (mg : Str → Option Value) : Prop where
  f_abs : mg "abs" = none
  f_all : mg "all" = none
  f_bool : mg "bool" = none
  f_divmod : mg "divmod" = none
  f_enumerate : mg "enumerate" = none
  f_int : mg "int" = none
  f_isinstance : mg "isinstance" = none
  f_len : mg "len" = none
  f_list : mg "list" = none
  f_max : mg "max" = none
  f_min : mg "min" = none
  f_range : mg "range" = none
  f_repr : mg "repr" = none
  f_sorted : mg "sorted" = none
  f_tuple : mg "tuple" = none
  f_zip : mg "zip" = none
  c_MOST_EXPONENT : ∃ t, mg "MOST_EXPONENT" = some (.int 99 t)
  c_MOST_RANK : ∃ t, mg "MOST_RANK" = some (.int 4 t)
  c_MOST_ROW : ∃ t, mg "MOST_ROW" = some (.int 240 t)
  c_MOST_WORD : ∃ t, mg "MOST_WORD" = some (.int 60 t)
  c_MOST_WORDS : ∃ t, mg "MOST_WORDS" = some (.int 40 t)
  n_is_integer : mg "is_integer" = some (.ref (He.ga K "is_integer"))
  d_is_integer : ∃ fd, FunD K d_is_integer.name d_is_integer.qual d_is_integer.params d_is_integer.body d_is_integer.scope (d_is_integer.dvs K) (d_is_integer.kws K) (He.fAd K d_is_integer.at_) fd
  n_is_list : mg "is_list" = some (.ref (He.ga K "is_list"))
  d_is_list : ∃ fd, FunD K d_is_list.name d_is_list.qual d_is_list.params d_is_list.body d_is_list.scope (d_is_list.dvs K) (d_is_list.kws K) (He.fAd K d_is_list.at_) fd
  n_want_at_most : mg "want_at_most" = some (.ref (He.ga K "want_at_most"))
  d_want_at_most : ∃ fd, FunD K d_want_at_most.name d_want_at_most.qual d_want_at_most.params d_want_at_most.body d_want_at_most.scope (d_want_at_most.dvs K) (d_want_at_most.kws K) (He.fAd K d_want_at_most.at_) fd
  n_is_reduced : mg "is_reduced" = some (.ref (He.ga K "is_reduced"))
  d_is_reduced : ∃ fd, FunD K d_is_reduced.name d_is_reduced.qual d_is_reduced.params d_is_reduced.body d_is_reduced.scope (d_is_reduced.dvs K) (d_is_reduced.kws K) (He.fAd K d_is_reduced.at_) fd
  n_letter_place : mg "letter_place" = some (.ref (He.ga K "letter_place"))
  d_letter_place : ∃ fd, FunD K d_letter_place.name d_letter_place.qual d_letter_place.params d_letter_place.body d_letter_place.scope (d_letter_place.dvs K) (d_letter_place.kws K) (He.fAd K d_letter_place.at_) fd
  n_reduced_of : mg "reduced_of" = some (.ref (He.ga K "reduced_of"))
  d_reduced_of : ∃ fd, FunD K d_reduced_of.name d_reduced_of.qual d_reduced_of.params d_reduced_of.body d_reduced_of.scope (d_reduced_of.dvs K) (d_reduced_of.kws K) (He.fAd K d_reduced_of.at_) fd
  n_undone_of : mg "undone_of" = some (.ref (He.ga K "undone_of"))
  d_undone_of : ∃ fd, FunD K d_undone_of.name d_undone_of.qual d_undone_of.params d_undone_of.body d_undone_of.scope (d_undone_of.dvs K) (d_undone_of.kws K) (He.fAd K d_undone_of.at_) fd
  n_is_ring : mg "is_ring" = some (.ref (He.ga K "is_ring"))
  d_is_ring : ∃ fd, FunD K d_is_ring.name d_is_ring.qual d_is_ring.params d_is_ring.body d_is_ring.scope (d_is_ring.dvs K) (d_is_ring.kws K) (He.fAd K d_is_ring.at_) fd
  n_ring_of : mg "ring_of" = some (.ref (He.ga K "ring_of"))
  d_ring_of : ∃ fd, FunD K d_ring_of.name d_ring_of.qual d_ring_of.params d_ring_of.body d_ring_of.scope (d_ring_of.dvs K) (d_ring_of.kws K) (He.fAd K d_ring_of.at_) fd
  n_turns_of : mg "turns_of" = some (.ref (He.ga K "turns_of"))
  d_turns_of : ∃ fd, FunD K d_turns_of.name d_turns_of.qual d_turns_of.params d_turns_of.body d_turns_of.scope (d_turns_of.dvs K) (d_turns_of.kws K) (He.fAd K d_turns_of.at_) fd
  n__law_pot : mg "_law_pot" = some (.ref (He.ga K "_law_pot"))
  d__law_pot : ∃ fd, FunD K d__law_pot.name d__law_pot.qual d__law_pot.params d__law_pot.body d__law_pot.scope (d__law_pot.dvs K) (d__law_pot.kws K) (He.fAd K d__law_pot.at_) fd
  n__law_draw : mg "_law_draw" = some (.ref (He.ga K "_law_draw"))
  d__law_draw : ∃ fd, FunD K d__law_draw.name d__law_draw.qual d__law_draw.params d__law_draw.body d__law_draw.scope (d__law_draw.dvs K) (d__law_draw.kws K) (He.fAd K d__law_draw.at_) fd
  n__law_letters : mg "_law_letters" = some (.ref (He.ga K "_law_letters"))
  d__law_letters : ∃ fd, FunD K d__law_letters.name d__law_letters.qual d__law_letters.params d__law_letters.body d__law_letters.scope (d__law_letters.dvs K) (d__law_letters.kws K) (He.fAd K d__law_letters.at_) fd
  n__law_reduced : mg "_law_reduced" = some (.ref (He.ga K "_law_reduced"))
  d__law_reduced : ∃ fd, FunD K d__law_reduced.name d__law_reduced.qual d__law_reduced.params d__law_reduced.body d__law_reduced.scope (d__law_reduced.dvs K) (d__law_reduced.kws K) (He.fAd K d__law_reduced.at_) fd
  n__law_undone : mg "_law_undone" = some (.ref (He.ga K "_law_undone"))
  d__law_undone : ∃ fd, FunD K d__law_undone.name d__law_undone.qual d__law_undone.params d__law_undone.body d__law_undone.scope (d__law_undone.dvs K) (d__law_undone.kws K) (He.fAd K d__law_undone.at_) fd
  n__law_ring : mg "_law_ring" = some (.ref (He.ga K "_law_ring"))
  d__law_ring : ∃ fd, FunD K d__law_ring.name d__law_ring.qual d__law_ring.params d__law_ring.body d__law_ring.scope (d__law_ring.dvs K) (d__law_ring.kws K) (He.fAd K d__law_ring.at_) fd
  n__law_part : mg "_law_part" = some (.ref (He.ga K "_law_part"))
  d__law_part : ∃ fd, FunD K d__law_part.name d__law_part.qual d__law_part.params d__law_part.body d__law_part.scope (d__law_part.dvs K) (d__law_part.kws K) (He.fAd K d__law_part.at_) fd
  n_is_letter : mg "is_letter" = some (.ref (He.ga K "is_letter"))
  d_is_letter : ∃ fd, FunD K d_is_letter.name d_is_letter.qual d_is_letter.params d_is_letter.body d_is_letter.scope (d_is_letter.dvs K) (d_is_letter.kws K) (He.fAd K d_is_letter.at_) fd
  n_want_rank : mg "want_rank" = some (.ref (He.ga K "want_rank"))
  d_want_rank : ∃ fd, FunD K d_want_rank.name d_want_rank.qual d_want_rank.params d_want_rank.body d_want_rank.scope (d_want_rank.dvs K) (d_want_rank.kws K) (He.fAd K d_want_rank.at_) fd
  n_want_told : mg "want_told" = some (.ref (He.ga K "want_told"))
  d_want_told : ∃ fd, FunD K d_want_told.name d_want_told.qual d_want_told.params d_want_told.body d_want_told.scope (d_want_told.dvs K) (d_want_told.kws K) (He.fAd K d_want_told.at_) fd
  n_order_key : mg "order_key" = some (.ref (He.ga K "order_key"))
  d_order_key : ∃ fd, FunD K d_order_key.name d_order_key.qual d_order_key.params d_order_key.body d_order_key.scope (d_order_key.dvs K) (d_order_key.kws K) (He.fAd K d_order_key.at_) fd
  n_put_together : mg "put_together" = some (.ref (He.ga K "put_together"))
  d_put_together : ∃ fd, FunD K d_put_together.name d_put_together.qual d_put_together.params d_put_together.body d_put_together.scope (d_put_together.dvs K) (d_put_together.kws K) (He.fAd K d_put_together.at_) fd
  n__law_pick : mg "_law_pick" = some (.ref (He.ga K "_law_pick"))
  d__law_pick : ∃ fd, FunD K d__law_pick.name d__law_pick.qual d__law_pick.params d__law_pick.body d__law_pick.scope (d__law_pick.dvs K) (d__law_pick.kws K) (He.fAd K d__law_pick.at_) fd
  n__law_product : mg "_law_product" = some (.ref (He.ga K "_law_product"))
  d__law_product : ∃ fd, FunD K d__law_product.name d__law_product.qual d__law_product.params d__law_product.body d__law_product.scope (d__law_product.dvs K) (d__law_product.kws K) (He.fAd K d__law_product.at_) fd
  n__law_turns : mg "_law_turns" = some (.ref (He.ga K "_law_turns"))
  d__law_turns : ∃ fd, FunD K d__law_turns.name d__law_turns.qual d__law_turns.params d__law_turns.body d__law_turns.scope (d__law_turns.dvs K) (d__law_turns.kws K) (He.fAd K d__law_turns.at_) fd
  n_is_row : mg "is_row" = some (.ref (He.ga K "is_row"))
  d_is_row : ∃ fd, FunD K d_is_row.name d_is_row.qual d_is_row.params d_is_row.body d_is_row.scope (d_is_row.dvs K) (d_is_row.kws K) (He.fAd K d_is_row.at_) fd
  n_power_of : mg "power_of" = some (.ref (He.ga K "power_of"))
  d_power_of : ∃ fd, FunD K d_power_of.name d_power_of.qual d_power_of.params d_power_of.body d_power_of.scope (d_power_of.dvs K) (d_power_of.kws K) (He.fAd K d_power_of.at_) fd
  n_led_of : mg "led_of" = some (.ref (He.ga K "led_of"))
  d_led_of : ∃ fd, FunD K d_led_of.name d_led_of.qual d_led_of.params d_led_of.body d_led_of.scope (d_led_of.dvs K) (d_led_of.kws K) (He.fAd K d_led_of.at_) fd
  n__law_word : mg "_law_word" = some (.ref (He.ga K "_law_word"))
  d__law_word : ∃ fd, FunD K d__law_word.name d__law_word.qual d__law_word.params d__law_word.body d__law_word.scope (d__law_word.dvs K) (d__law_word.kws K) (He.fAd K d__law_word.at_) fd
  n_is_word : mg "is_word" = some (.ref (He.ga K "is_word"))
  d_is_word : ∃ fd, FunD K d_is_word.name d_is_word.qual d_is_word.params d_is_word.body d_is_word.scope (d_is_word.dvs K) (d_is_word.kws K) (He.fAd K d_is_word.at_) fd
  n_leader_of : mg "leader_of" = some (.ref (He.ga K "leader_of"))
  d_leader_of : ∃ fd, FunD K d_leader_of.name d_leader_of.qual d_leader_of.params d_leader_of.body d_leader_of.scope (d_leader_of.dvs K) (d_leader_of.kws K) (He.fAd K d_leader_of.at_) fd
  n_want_word : mg "want_word" = some (.ref (He.ga K "want_word"))
  d_want_word : ∃ fd, FunD K d_want_word.name d_want_word.qual d_want_word.params d_want_word.body d_want_word.scope (d_want_word.dvs K) (d_want_word.kws K) (He.fAd K d_want_word.at_) fd
  n_want_words : mg "want_words" = some (.ref (He.ga K "want_words"))
  d_want_words : ∃ fd, FunD K d_want_words.name d_want_words.qual d_want_words.params d_want_words.body d_want_words.scope (d_want_words.dvs K) (d_want_words.kws K) (He.fAd K d_want_words.at_) fd
  n_want_ranked : mg "want_ranked" = some (.ref (He.ga K "want_ranked"))
  d_want_ranked : ∃ fd, FunD K d_want_ranked.name d_want_ranked.qual d_want_ranked.params d_want_ranked.body d_want_ranked.scope (d_want_ranked.dvs K) (d_want_ranked.kws K) (He.fAd K d_want_ranked.at_) fd
  n_product : mg "product" = some (.ref (He.ga K "product"))
  d_product : ∃ fd, FunD K d_product.name d_product.qual d_product.params d_product.body d_product.scope (d_product.dvs K) (d_product.kws K) (He.fAd K d_product.at_) fd
  n_power : mg "power" = some (.ref (He.ga K "power"))
  d_power : ∃ fd, FunD K d_power.name d_power.qual d_power.params d_power.body d_power.scope (d_power.dvs K) (d_power.kws K) (He.fAd K d_power.at_) fd
  n_is_before : mg "is_before" = some (.ref (He.ga K "is_before"))
  d_is_before : ∃ fd, FunD K d_is_before.name d_is_before.qual d_is_before.params d_is_before.body d_is_before.scope (d_is_before.dvs K) (d_is_before.kws K) (He.fAd K d_is_before.at_) fd
  n_want_two : mg "want_two" = some (.ref (He.ga K "want_two"))
  d_want_two : ∃ fd, FunD K d_want_two.name d_want_two.qual d_want_two.params d_want_two.body d_want_two.scope (d_want_two.dvs K) (d_want_two.kws K) (He.fAd K d_want_two.at_) fd
  n_is_ring_word : mg "is_ring_word" = some (.ref (He.ga K "is_ring_word"))
  d_is_ring_word : ∃ fd, FunD K d_is_ring_word.name d_is_ring_word.qual d_is_ring_word.params d_is_ring_word.body d_is_ring_word.scope (d_is_ring_word.dvs K) (d_is_ring_word.kws K) (He.fAd K d_is_ring_word.at_) fd
  n_ring_core : mg "ring_core" = some (.ref (He.ga K "ring_core"))
  d_ring_core : ∃ fd, FunD K d_ring_core.name d_ring_core.qual d_ring_core.params d_ring_core.body d_ring_core.scope (d_ring_core.dvs K) (d_ring_core.kws K) (He.fAd K d_ring_core.at_) fd
  n_ring_turns : mg "ring_turns" = some (.ref (He.ga K "ring_turns"))
  d_ring_turns : ∃ fd, FunD K d_ring_turns.name d_ring_turns.qual d_ring_turns.params d_ring_turns.body d_ring_turns.scope (d_ring_turns.dvs K) (d_ring_turns.kws K) (He.fAd K d_ring_turns.at_) fd
  n_led : mg "led" = some (.ref (He.ga K "led"))
  d_led : ∃ fd, FunD K d_led.name d_led.qual d_led.params d_led.body d_led.scope (d_led.dvs K) (d_led.kws K) (He.fAd K d_led.at_) fd
  n_are_led : mg "are_led" = some (.ref (He.ga K "are_led"))
  d_are_led : ∃ fd, FunD K d_are_led.name d_are_led.qual d_are_led.params d_are_led.body d_are_led.scope (d_are_led.dvs K) (d_are_led.kws K) (He.fAd K d_are_led.at_) fd
  n__law_one_right : mg "_law_one_right" = some (.ref (He.ga K "_law_one_right"))
  d__law_one_right : ∃ fd, FunD K d__law_one_right.name d__law_one_right.qual d__law_one_right.params d__law_one_right.body d__law_one_right.scope (d__law_one_right.dvs K) (d__law_one_right.kws K) (He.fAd K d__law_one_right.at_) fd
  n__law_right : mg "_law_right" = some (.ref (He.ga K "_law_right"))
  d__law_right : ∃ fd, FunD K d__law_right.name d__law_right.qual d__law_right.params d__law_right.body d__law_right.scope (d__law_right.dvs K) (d__law_right.kws K) (He.fAd K d__law_right.at_) fd
  n_law : mg "law" = some (.ref (He.ga K "law"))
  d_law : ∃ fd, FunD K d_law.name d_law.qual d_law.params d_law.body d_law.scope (d_law.dvs K) (d_law.kws K) (He.fAd K d_law.at_) fd
section
variable {P : Program} {w : World} {K : PySem.W.Frag} {mg : Str → Option Value} {base : Heap}
theorem sc_is_integer : FnScope ["value"] ["value"] d_is_integer.scope := ⟨rfl, rfl, rfl, by decide +kernel, rfl, by decide +kernel, by decide +kernel⟩
theorem ok_is_integer (B : Fx K mg)  : Cal P w K mg base 1 d_is_integer ["value"] F_is_integer :=
  cal_of (N := ["value"]) (k := 0) (lk := []) B.n_is_integer B.d_is_integer rfl sc_is_integer fun cdv A outer s H E r hg =>
    have SC := sc_is_integer
    have tk := takes_of (X := cxOf (CX P w) P w K mg base ["value"] d_is_integer.qual d_is_integer.scope (He.fAd K d_is_integer.at_) cdv A outer s H E) rfl rfl rfl rfl
    have ps := passes_of (X := cxOf (CX P w) P w K mg base ["value"] d_is_integer.qual d_is_integer.scope (He.fAd K d_is_integer.at_) cdv A outer s H E) rfl
    (by exact (sds_one (sd_ret (pm_pp (pp_and (pp_isi .int B.f_isinstance B.f_int (pp_name 0)) (pp_one (pp_not (pp_isi .bool B.f_isinstance B.f_bool (pp_name 0)))))))))
theorem sc_is_list : FnScope ["value"] ["value"] d_is_list.scope := ⟨rfl, rfl, rfl, by decide +kernel, rfl, by decide +kernel, by decide +kernel⟩
theorem ok_is_list (B : Fx K mg)  : Cal P w K mg base 1 d_is_list ["value"] F_is_list :=
  cal_of (N := ["value"]) (k := 0) (lk := []) B.n_is_list B.d_is_list rfl sc_is_list fun cdv A outer s H E r hg =>
    have SC := sc_is_list
    have tk := takes_of (X := cxOf (CX P w) P w K mg base ["value"] d_is_list.qual d_is_list.scope (He.fAd K d_is_list.at_) cdv A outer s H E) rfl rfl rfl rfl
    have ps := passes_of (X := cxOf (CX P w) P w K mg base ["value"] d_is_list.qual d_is_list.scope (He.fAd K d_is_list.at_) cdv A outer s H E) rfl
    (by exact (sds_one (sd_ret (pm_pp (pp_isi2 (ps := ⟨0, 0, 0, 0⟩) .list .tuple B.f_isinstance B.f_list B.f_tuple (pp_name 0))))))
theorem sc_want_at_most : FnScope ["what", "limit", "number"] ["what", "limit", "number"] d_want_at_most.scope := ⟨rfl, rfl, rfl, by decide +kernel, rfl, by decide +kernel, by decide +kernel⟩
theorem ok_want_at_most (B : Fx K mg)  : Cal P w K mg base 1 d_want_at_most ["what", "limit", "number"] F_want_at_most :=
  cal_of (N := ["what", "limit", "number"]) (k := 0) (lk := []) B.n_want_at_most B.d_want_at_most rfl sc_want_at_most fun cdv A outer s H E r hg =>
    have SC := sc_want_at_most
    have tk := takes_of (X := cxOf (CX P w) P w K mg base ["what", "limit", "number"] d_want_at_most.qual d_want_at_most.scope (He.fAd K d_want_at_most.at_) cdv A outer s H E) rfl rfl rfl rfl
    have ps := passes_of (X := cxOf (CX P w) P w K mg base ["what", "limit", "number"] d_want_at_most.qual d_want_at_most.scope (He.fAd K d_want_at_most.at_) cdv A outer s H E) rfl
    (by exact (sds_one (sd_if (tm_tp (tp_cmp o_gt (pp_name 2) (pp_name 1))) (sds_one sd_never) sds_nil)))
theorem sc_is_reduced : FnScope ["row", "one", "other"] ["row"] d_is_reduced.scope := ⟨rfl, rfl, rfl, by decide +kernel, rfl, by decide +kernel, by decide +kernel⟩
theorem ok_is_reduced (B : Fx K mg)  : Cal P w K mg base 1 d_is_reduced ["row"] F_is_reduced :=
  cal_of (N := ["row", "one", "other"]) (k := 0) (lk := []) B.n_is_reduced B.d_is_reduced rfl sc_is_reduced fun cdv A outer s H E r hg =>
    have SC := sc_is_reduced
    have tk := takes_of (X := cxOf (CX P w) P w K mg base ["row", "one", "other"] d_is_reduced.qual d_is_reduced.scope (He.fAd K d_is_reduced.at_) cdv A outer s H E) rfl rfl rfl rfl
    have ps := passes_of (X := cxOf (CX P w) P w K mg base ["row", "one", "other"] d_is_reduced.qual d_is_reduced.scope (He.fAd K d_is_reduced.at_) cdv A outer s H E) rfl
    (by exact (sds_one (sd_ret (pm_pp (pp_callB (c_all rfl) B.f_all (aa_cons (pp_lc rfl SC.nd (ip_zip B.f_zip (aa_cons (pp_name 0) (aa_cons (pp_slice (pp_name 0) (op_some pp_int) op_none) aa_nil))) (blkOk_by (own := [("one", 1), ("other", 2)]) (by first | rfl | with_unfolding_all rfl)) (fun _ _ _ _ _ => (gp_tup rfl (gps_cons (gp_name 1 SC.nd) (gps_cons (gp_name 2 SC.nd) gps_nil)))) (fun _ _ _ _ _ => tps_nil) (fun _ _ _ _ _ => (pp_cmp (o_ne (Room.u64 r)) (pp_bin o_add (pp_name 1) (pp_name 2)) pp_int))) aa_nil))))))
theorem sc_letter_place : FnScope ["letter"] ["letter"] d_letter_place.scope := ⟨rfl, rfl, rfl, by decide +kernel, rfl, by decide +kernel, by decide +kernel⟩
theorem ok_letter_place (B : Fx K mg)  : Cal P w K mg base 1 d_letter_place ["letter"] F_letter_place :=
  cal_of (N := ["letter"]) (k := 0) (lk := []) B.n_letter_place B.d_letter_place rfl sc_letter_place fun cdv A outer s H E r hg =>
    have SC := sc_letter_place
    have tk := takes_of (X := cxOf (CX P w) P w K mg base ["letter"] d_letter_place.qual d_letter_place.scope (He.fAd K d_letter_place.at_) cdv A outer s H E) rfl rfl rfl rfl
    have ps := passes_of (X := cxOf (CX P w) P w K mg base ["letter"] d_letter_place.qual d_letter_place.scope (He.fAd K d_letter_place.at_) cdv A outer s H E) rfl
    (by exact (sds_one (sd_ret (pm_pp (pp_if (tp_cmp o_gt (pp_name 0) pp_int) (pp_bin o_sub (pp_bin o_mul pp_int (pp_name 0)) pp_int) (pp_bin o_sub (pp_bin o_sub pp_int (pp_bin o_mul pp_int (pp_name 0))) pp_int))))))
theorem sc_reduced_of : FnScope ["row", "found", "letter"] ["row"] d_reduced_of.scope := ⟨rfl, rfl, rfl, by decide +kernel, rfl, by decide +kernel, by decide +kernel⟩
theorem ok_reduced_of (B : Fx K mg)  : Cal P w K mg base 1 d_reduced_of ["row"] F_reduced_of :=
  cal_of (N := ["row", "found", "letter"]) (k := 0) (lk := []) B.n_reduced_of B.d_reduced_of rfl sc_reduced_of fun cdv A outer s H E r hg =>
    have SC := sc_reduced_of
    have tk := takes_of (X := cxOf (CX P w) P w K mg base ["row", "found", "letter"] d_reduced_of.qual d_reduced_of.scope (He.fAd K d_reduced_of.at_) cdv A outer s H E) rfl rfl rfl rfl
    have ps := passes_of (X := cxOf (CX P w) P w K mg base ["row", "found", "letter"] d_reduced_of.qual d_reduced_of.scope (He.fAd K d_reduced_of.at_) cdv A outer s H E) rfl
    (by exact (sds_cons (sd_setO 1 (pm_pp (pp_lst aa_nil)) SC.nd) (sds_cons (sd_for (vs := [2]) ps rfl (ip_seq (pp_name 0)) (gp_name 2 SC.nd) (sds_one (sd_if (tm_tp (WP.tp (wp_and (tp_cmp (o_ne (Room.u64 r)) (pp_name 1) (pp_lst aa_nil)) (wp_and1 (tp_cmp (o_eq (Room.u64 r)) (pp_bin o_add (pp_ix (pp_name 1) (pp_un o_neg pp_int)) (pp_name 2)) pp_int))))) (sds_one (sd_expr (pm_mt0 1 l_pop F.slot_list_pop rfl))) (sds_one (sd_expr (pm_mt 1 l_append F.slot_list_append rfl (pm_pp (pp_name 2)))))))) (sds_one (sd_ret (pm_pp (pp_callT c_tuple B.f_tuple (aa_cons (pp_name 1) aa_nil))))))))
theorem sc_undone_of : FnScope ["word", "letter"] ["word"] d_undone_of.scope := ⟨rfl, rfl, rfl, by decide +kernel, rfl, by decide +kernel, by decide +kernel⟩
theorem ok_undone_of (B : Fx K mg)  : Cal P w K mg base 1 d_undone_of ["word"] F_undone_of :=
  cal_of (N := ["word", "letter"]) (k := 0) (lk := []) B.n_undone_of B.d_undone_of rfl sc_undone_of fun cdv A outer s H E r hg =>
    have SC := sc_undone_of
    have tk := takes_of (X := cxOf (CX P w) P w K mg base ["word", "letter"] d_undone_of.qual d_undone_of.scope (He.fAd K d_undone_of.at_) cdv A outer s H E) rfl rfl rfl rfl
    have ps := passes_of (X := cxOf (CX P w) P w K mg base ["word", "letter"] d_undone_of.qual d_undone_of.scope (He.fAd K d_undone_of.at_) cdv A outer s H E) rfl
    (by exact (sds_one (sd_ret (pm_pp (pp_callT c_tuple B.f_tuple (aa_cons (pp_lc rfl SC.nd (ip_seq (pp_rev (pp_name 0))) (blkOk_by (own := [("letter", 1)]) (by first | rfl | with_unfolding_all rfl)) (fun _ _ _ _ _ => (gp_name 1 SC.nd)) (fun _ _ _ _ _ => tps_nil) (fun _ _ _ _ _ => (pp_bin o_sub pp_int (pp_name 1)))) aa_nil))))))
theorem sc_is_ring : FnScope ["word"] ["word"] d_is_ring.scope := ⟨rfl, rfl, rfl, by decide +kernel, rfl, by decide +kernel, by decide +kernel⟩
theorem ok_is_ring (B : Fx K mg)  : Cal P w K mg base 1 d_is_ring ["word"] F_is_ring :=
  cal_of (N := ["word"]) (k := 0) (lk := []) B.n_is_ring B.d_is_ring rfl sc_is_ring fun cdv A outer s H E r hg =>
    have SC := sc_is_ring
    have tk := takes_of (X := cxOf (CX P w) P w K mg base ["word"] d_is_ring.qual d_is_ring.scope (He.fAd K d_is_ring.at_) cdv A outer s H E) rfl rfl rfl rfl
    have ps := passes_of (X := cxOf (CX P w) P w K mg base ["word"] d_is_ring.qual d_is_ring.scope (He.fAd K d_is_ring.at_) cdv A outer s H E) rfl
    (by exact (sds_one (sd_ret (pm_pp (pp_or (pp_cmp (o_eq (Room.u64 r)) (pp_name 0) (pp_tup aa_nil)) (pp_one (pp_cmp (o_ne (Room.u64 r)) (pp_bin o_add (pp_ix (pp_name 0) pp_int) (pp_ix (pp_name 0) (pp_un o_neg pp_int))) pp_int)))))))
theorem sc_ring_of : FnScope ["word", "at"] ["word"] d_ring_of.scope := ⟨rfl, rfl, rfl, by decide +kernel, rfl, by decide +kernel, by decide +kernel⟩
theorem ok_ring_of (B : Fx K mg)  : Cal P w K mg base 1 d_ring_of ["word"] F_ring_of :=
  cal_of (N := ["word", "at"]) (k := 0) (lk := []) B.n_ring_of B.d_ring_of rfl sc_ring_of fun cdv A outer s H E r hg =>
    have SC := sc_ring_of
    have tk := takes_of (X := cxOf (CX P w) P w K mg base ["word", "at"] d_ring_of.qual d_ring_of.scope (He.fAd K d_ring_of.at_) cdv A outer s H E) rfl rfl rfl rfl
    have ps := passes_of (X := cxOf (CX P w) P w K mg base ["word", "at"] d_ring_of.qual d_ring_of.scope (He.fAd K d_ring_of.at_) cdv A outer s H E) rfl
    (by exact (sds_cons (sd_set 1 (pm_pp pp_int) SC.nd) (sds_cons (sd_while FUEL ps (tm_tp (WP.tp (wp_and (tp_cmp o_lt (pp_name 1) (pp_bin o_sub (pp_bin o_sub (pp_callB c_len B.f_len (aa_cons (pp_name 0) aa_nil)) pp_int) (pp_name 1))) (wp_and1 (tp_cmp (o_eq (Room.u64 r)) (pp_bin o_add (pp_ix (pp_name 0) (pp_name 1)) (pp_ix (pp_name 0) (pp_bin o_sub (pp_bin o_sub (pp_callB c_len B.f_len (aa_cons (pp_name 0) aa_nil)) pp_int) (pp_name 1)))) pp_int))))) (sds_one (sd_set 1 (pm_pp (pp_bin o_add (pp_name 1) pp_int)) SC.nd))) (sds_one (sd_ret (pm_pp (pp_tup (aa_cons (pp_slice (pp_name 0) op_none (op_some (pp_name 1))) (aa_cons (pp_slice (pp_name 0) (op_some (pp_name 1)) (op_some (pp_bin o_sub (pp_callB c_len B.f_len (aa_cons (pp_name 0) aa_nil)) (pp_name 1)))) aa_nil)))))))))
theorem sc_turns_of : FnScope ["core", "at"] ["core"] d_turns_of.scope := ⟨rfl, rfl, rfl, by decide +kernel, rfl, by decide +kernel, by decide +kernel⟩
theorem ok_turns_of (B : Fx K mg)  : Cal P w K mg base 1 d_turns_of ["core"] F_turns_of :=
  cal_of (N := ["core", "at"]) (k := 0) (lk := []) B.n_turns_of B.d_turns_of rfl sc_turns_of fun cdv A outer s H E r hg =>
    have SC := sc_turns_of
    have tk := takes_of (X := cxOf (CX P w) P w K mg base ["core", "at"] d_turns_of.qual d_turns_of.scope (He.fAd K d_turns_of.at_) cdv A outer s H E) rfl rfl rfl rfl
    have ps := passes_of (X := cxOf (CX P w) P w K mg base ["core", "at"] d_turns_of.qual d_turns_of.scope (He.fAd K d_turns_of.at_) cdv A outer s H E) rfl
    (by exact (sds_one (sd_ret (pm_pp (pp_lc rfl SC.nd (ip_range1 B.f_range (aa_cons (pp_callB c_len B.f_len (aa_cons (pp_name 0) aa_nil)) aa_nil)) (blkOk_by (own := [("at", 1)]) (by first | rfl | with_unfolding_all rfl)) (fun _ _ _ _ _ => (gp_name 1 SC.nd)) (fun _ _ _ _ _ => tps_nil) (fun _ _ _ _ _ => (pp_bin o_add (pp_slice (pp_name 0) (op_some (pp_name 1)) op_none) (pp_slice (pp_name 0) op_none (op_some (pp_name 1))))))))))
theorem sc__law_pot : FnScope ["script", "k", "cell"] ["script", "k"] d__law_pot.scope := ⟨rfl, rfl, rfl, by decide +kernel, rfl, by decide +kernel, by decide +kernel⟩
theorem ok__law_pot (B : Fx K mg)  : Cal P w K mg base 1 d__law_pot ["script", "k"] F__law_pot :=
  cal_of (N := ["script", "k", "cell"]) (k := 0) (lk := []) B.n__law_pot B.d__law_pot rfl sc__law_pot fun cdv A outer s H E r hg =>
    have SC := sc__law_pot
    have tk := takes_of (X := cxOf (CX P w) P w K mg base ["script", "k", "cell"] d__law_pot.qual d__law_pot.scope (He.fAd K d__law_pot.at_) cdv A outer s H E) rfl rfl rfl rfl
    have ps := passes_of (X := cxOf (CX P w) P w K mg base ["script", "k", "cell"] d__law_pot.qual d__law_pot.scope (He.fAd K d__law_pot.at_) cdv A outer s H E) rfl
    (by exact (sds_cons (sd_set 2 (pm_pp (pp_bin o_add (pp_bin o_mul pp_int (pp_name 1)) pp_int)) SC.nd) (sds_cons (sd_if (tm_tp (tp_cmp o_lt (pp_name 1) (pp_callB c_len B.f_len (aa_cons (pp_name 0) aa_nil)))) (sds_one (sd_set 2 (pm_pp (pp_callB c_abs B.f_abs (aa_cons (pp_ix (pp_name 0) (pp_name 1)) aa_nil))) SC.nd)) sds_nil) (sds_one (sd_ret (pm_pp (pp_lst (aa_cons (pp_callB (c_max2 rfl) B.f_max (aa_cons pp_int (aa_cons (pp_bin o_sub (pp_name 2) (pp_bin o_pow pp_int pp_int)) aa_nil))) (aa_cons (pp_bin o_add (pp_bin o_mod (pp_callT c_int B.f_int (aa_cons (pp_bin o_add (pp_bin o_add (pp_bin o_mul (pp_bin o_mod (pp_callT c_int B.f_int (aa_cons (pp_name 2) aa_nil)) pp_int) pp_int) (pp_bin o_mul pp_int (pp_name 1))) pp_int) aa_nil)) pp_int) pp_int) aa_nil)))))))))
theorem sc__law_draw : FnScope ["pot", "many", "digit"] ["pot", "many"] d__law_draw.scope := ⟨rfl, rfl, rfl, by decide +kernel, rfl, by decide +kernel, by decide +kernel⟩
theorem ok__law_draw (B : Fx K mg)  : Cal P w K mg base 1 d__law_draw ["pot", "many"] F__law_draw :=
  cal_of (N := ["pot", "many", "digit"]) (k := 0) (lk := [0]) B.n__law_draw B.d__law_draw rfl sc__law_draw fun cdv A outer s H E r hg =>
    have SC := sc__law_draw
    have tk := takes_of (X := cxOf (CX P w) P w K mg base ["pot", "many", "digit"] d__law_draw.qual d__law_draw.scope (He.fAd K d__law_draw.at_) cdv A outer s H E) rfl rfl rfl rfl
    have ps := passes_of (X := cxOf (CX P w) P w K mg base ["pot", "many", "digit"] d__law_draw.qual d__law_draw.scope (He.fAd K d__law_draw.at_) cdv A outer s H E) rfl
    (by exact (sds_cons (sd_if (tm_tp (tp_cmp o_gt (pp_ix (pp_name 0) pp_int) pp_int)) (sds_cons (sd_asg (pm_pp (pp_callB c_divmod B.f_divmod (aa_cons (pp_ix (pp_name 0) pp_int) (aa_cons (pp_name 1) aa_nil)))) (ge_tup rfl (ges_cons (ge_sub 0 pp_int) (ges_cons (ge_gp (vs := [2]) (gp_name 2 SC.nd)) ges_nil)))) (sds_one (sd_ret (pm_pp (pp_name 2))))) sds_nil) (sds_cons (sd_asg (pm_pp (pp_bin o_mod (pp_callT c_int B.f_int (aa_cons (pp_bin o_add (pp_bin o_mul (pp_ix (pp_name 0) pp_int) pp_int) pp_int) aa_nil)) pp_int)) (ge_sub 0 pp_int)) (sds_one (sd_ret (pm_pp (pp_bin o_mod (pp_callT c_int B.f_int (aa_cons (pp_bin o_fdiv (pp_bin o_mod (pp_callT c_int B.f_int (aa_cons (pp_bin o_mul (pp_ix (pp_name 0) pp_int) (pp_ix (pp_name 0) pp_int)) aa_nil)) pp_int) pp_int) aa_nil)) (pp_name 1))))))))
theorem sc__law_letters : FnScope ["rank", "found", "letter"] ["rank"] d__law_letters.scope := ⟨rfl, rfl, rfl, by decide +kernel, rfl, by decide +kernel, by decide +kernel⟩
theorem ok__law_letters (B : Fx K mg)  : Cal P w K mg base 1 d__law_letters ["rank"] F__law_letters :=
  cal_of (N := ["rank", "found", "letter"]) (k := 0) (lk := []) B.n__law_letters B.d__law_letters rfl sc__law_letters fun cdv A outer s H E r hg =>
    have SC := sc__law_letters
    have tk := takes_of (X := cxOf (CX P w) P w K mg base ["rank", "found", "letter"] d__law_letters.qual d__law_letters.scope (He.fAd K d__law_letters.at_) cdv A outer s H E) rfl rfl rfl rfl
    have ps := passes_of (X := cxOf (CX P w) P w K mg base ["rank", "found", "letter"] d__law_letters.qual d__law_letters.scope (He.fAd K d__law_letters.at_) cdv A outer s H E) rfl
    (by exact (sds_cons (sd_setO 1 (pm_pp (pp_lst aa_nil)) SC.nd) (sds_cons (sd_for (vs := [2]) ps rfl (ip_range2 B.f_range (aa_cons pp_int (aa_cons (pp_bin o_add (pp_name 0) pp_int) aa_nil))) (gp_name 2 SC.nd) (sds_one (sd_expr (pm_mt 1 l_extend F.slot_list_extend rfl (pm_pp (pp_lst (aa_cons (pp_name 2) (aa_cons (pp_bin o_sub pp_int (pp_name 2)) aa_nil)))))))) (sds_one (sd_retMv 1)))))
theorem sc__law_reduced : FnScope ["row", "left", "is_new", "spots", "at"] ["row"] d__law_reduced.scope := ⟨rfl, rfl, rfl, by decide +kernel, rfl, by decide +kernel, by decide +kernel⟩
theorem ok__law_reduced (B : Fx K mg)  : Cal P w K mg base 1 d__law_reduced ["row"] F__law_reduced :=
  cal_of (N := ["row", "left", "is_new", "spots", "at"]) (k := 0) (lk := []) B.n__law_reduced B.d__law_reduced rfl sc__law_reduced fun cdv A outer s H E r hg =>
    have SC := sc__law_reduced
    have tk := takes_of (X := cxOf (CX P w) P w K mg base ["row", "left", "is_new", "spots", "at"] d__law_reduced.qual d__law_reduced.scope (He.fAd K d__law_reduced.at_) cdv A outer s H E) rfl rfl rfl rfl
    have ps := passes_of (X := cxOf (CX P w) P w K mg base ["row", "left", "is_new", "spots", "at"] d__law_reduced.qual d__law_reduced.scope (He.fAd K d__law_reduced.at_) cdv A outer s H E) rfl
    (by exact (sds_cons (sd_asg (pm_pp (pp_tup (aa_cons (pp_callT c_tuple B.f_tuple (aa_cons (pp_name 0) aa_nil)) (aa_cons pp_bl aa_nil)))) (ge_tup rfl (ges_cons (ge_gp (vs := [1]) (gp_name 1 SC.nd)) (ges_cons (ge_gp (vs := [2]) (gp_name 2 SC.nd)) ges_nil)))) (sds_cons (sd_while FUEL ps (tm_tp (tp_val (pp_name 2))) (sds_cons (sd_setLc 3 rfl SC.nd (by first | exact sw_true rfl rfl rfl rfl | with_unfolding_all rfl) (ip_range1 B.f_range (aa_cons (pp_bin o_sub (pp_callB c_len B.f_len (aa_cons (pp_name 1) aa_nil)) pp_int) aa_nil)) (blkOk_by (own := [("at", 4)]) (by first | rfl | with_unfolding_all rfl)) (fun _ _ _ _ _ => (gp_name 4 SC.nd)) (fun _ _ _ _ _ => (tps_one (tp_cmp (o_eq (Room.u64 r)) (pp_ix (pp_name 1) (pp_name 4)) (pp_bin o_sub pp_int (pp_ix (pp_name 1) (pp_bin o_add (pp_name 4) pp_int)))))) (fun _ _ _ _ _ => (pp_name 4))) (sds_cons (sd_set 2 (pm_pp (pp_cmp (o_ne (Room.u64 r)) (pp_name 3) (pp_lst aa_nil))) SC.nd) (sds_one (sd_set 1 (pm_pp (pp_if (tp_val (pp_name 2)) (pp_bin o_add (pp_slice (pp_name 1) op_none (op_some (pp_ix (pp_name 3) pp_int))) (pp_slice (pp_name 1) (op_some (pp_bin o_add (pp_ix (pp_name 3) pp_int) pp_int)) op_none)) (pp_name 1))) SC.nd))))) (sds_one (sd_ret (pm_pp (pp_name 1)))))))
theorem sc__law_undone : FnScope ["word", "letter"] ["word"] d__law_undone.scope := ⟨rfl, rfl, rfl, by decide +kernel, rfl, by decide +kernel, by decide +kernel⟩
theorem ok__law_undone (B : Fx K mg)  : Cal P w K mg base 1 d__law_undone ["word"] F__law_undone :=
  cal_of (N := ["word", "letter"]) (k := 0) (lk := []) B.n__law_undone B.d__law_undone rfl sc__law_undone fun cdv A outer s H E r hg =>
    have SC := sc__law_undone
    have tk := takes_of (X := cxOf (CX P w) P w K mg base ["word", "letter"] d__law_undone.qual d__law_undone.scope (He.fAd K d__law_undone.at_) cdv A outer s H E) rfl rfl rfl rfl
    have ps := passes_of (X := cxOf (CX P w) P w K mg base ["word", "letter"] d__law_undone.qual d__law_undone.scope (He.fAd K d__law_undone.at_) cdv A outer s H E) rfl
    (by exact (sds_one (sd_ret (pm_pp (pp_callT c_tuple B.f_tuple (aa_cons (pp_lc rfl SC.nd (ip_seq (pp_rev (pp_name 0))) (blkOk_by (own := [("letter", 1)]) (by first | rfl | with_unfolding_all rfl)) (fun _ _ _ _ _ => (gp_name 1 SC.nd)) (fun _ _ _ _ _ => tps_nil) (fun _ _ _ _ _ => (pp_bin o_sub pp_int (pp_name 1)))) aa_nil))))))
theorem sc__law_ring : FnScope ["word", "head", "core"] ["word"] d__law_ring.scope := ⟨rfl, rfl, rfl, by decide +kernel, rfl, by decide +kernel, by decide +kernel⟩
theorem ok__law_ring (B : Fx K mg)  : Cal P w K mg base 1 d__law_ring ["word"] F__law_ring :=
  cal_of (N := ["word", "head", "core"]) (k := 0) (lk := []) B.n__law_ring B.d__law_ring rfl sc__law_ring fun cdv A outer s H E r hg =>
    have SC := sc__law_ring
    have tk := takes_of (X := cxOf (CX P w) P w K mg base ["word", "head", "core"] d__law_ring.qual d__law_ring.scope (He.fAd K d__law_ring.at_) cdv A outer s H E) rfl rfl rfl rfl
    have ps := passes_of (X := cxOf (CX P w) P w K mg base ["word", "head", "core"] d__law_ring.qual d__law_ring.scope (He.fAd K d__law_ring.at_) cdv A outer s H E) rfl
    (by exact (sds_cons (sd_par 1 2 rfl (ar_fz (pm_pp (pp_tup aa_nil)) (ar_fz (pm_pp (pp_name 0)) ar_nil)) SC.nd (by with_unfolding_all rfl)) (sds_cons (sd_while FUEL ps (tm_tp (WP.tp (wp_and (tp_cmp o_gt (pp_callB c_len B.f_len (aa_cons (pp_name 2) aa_nil)) pp_int) (wp_and1 (tp_cmp (o_eq (Room.u64 r)) (pp_ix (pp_name 2) pp_int) (pp_bin o_sub pp_int (pp_ix (pp_name 2) (pp_un o_neg pp_int)))))))) (sds_one (sd_par 1 2 rfl (ar_fz (pm_pp (pp_bin o_add (pp_name 1) (pp_slice (pp_name 2) op_none (op_some pp_int)))) (ar_fz (pm_pp (pp_slice (pp_name 2) (op_some pp_int) (op_some (pp_un o_neg pp_int)))) ar_nil)) SC.nd (by with_unfolding_all rfl)))) (sds_one (sd_ret (pm_pp (pp_tup (aa_cons (pp_name 1) (aa_cons (pp_name 2) aa_nil)))))))))
theorem sc__law_part : FnScope ["core", "lengths", "length"] ["core"] d__law_part.scope := ⟨rfl, rfl, rfl, by decide +kernel, rfl, by decide +kernel, by decide +kernel⟩
theorem ok__law_part (B : Fx K mg)  : Cal P w K mg base 1 d__law_part ["core"] F__law_part :=
  cal_of (N := ["core", "lengths", "length"]) (k := 0) (lk := []) B.n__law_part B.d__law_part rfl sc__law_part fun cdv A outer s H E r hg =>
    have SC := sc__law_part
    have tk := takes_of (X := cxOf (CX P w) P w K mg base ["core", "lengths", "length"] d__law_part.qual d__law_part.scope (He.fAd K d__law_part.at_) cdv A outer s H E) rfl rfl rfl rfl
    have ps := passes_of (X := cxOf (CX P w) P w K mg base ["core", "lengths", "length"] d__law_part.qual d__law_part.scope (He.fAd K d__law_part.at_) cdv A outer s H E) rfl
    (by exact (sds_cons (sd_setLc 1 rfl SC.nd (by first | exact sw_true rfl rfl rfl rfl | with_unfolding_all rfl) (ip_range2 B.f_range (aa_cons pp_int (aa_cons (pp_bin o_add (pp_callB c_len B.f_len (aa_cons (pp_name 0) aa_nil)) pp_int) aa_nil))) (blkOk_by (own := [("length", 2)]) (by first | rfl | with_unfolding_all rfl)) (fun _ _ _ _ _ => (gp_name 2 SC.nd)) (fun _ _ _ _ _ => (tps_one (tp_cmp (o_eq (Room.u64 r)) (pp_bin o_mul (pp_slice (pp_name 0) op_none (op_some (pp_name 2))) (pp_bin o_fdiv (pp_callB c_len B.f_len (aa_cons (pp_name 0) aa_nil)) (pp_name 2))) (pp_name 0)))) (fun _ _ _ _ _ => (pp_name 2))) (sds_one (sd_ret (pm_pp (pp_slice (pp_name 0) op_none (op_some (pp_ix (pp_name 1) pp_int))))))))
theorem sc_is_letter : FnScope ["rank", "value"] ["rank", "value"] d_is_letter.scope := ⟨rfl, rfl, rfl, by decide +kernel, rfl, by decide +kernel, by decide +kernel⟩
theorem ok_is_letter (B : Fx K mg) (h_is_integer : Cal P w K mg base 1 d_is_integer ["value"] F_is_integer) : Cal P w K mg base 2 d_is_letter ["rank", "value"] F_is_letter :=
  cal_of (N := ["rank", "value"]) (k := 1) (lk := []) B.n_is_letter B.d_is_letter rfl sc_is_letter fun cdv A outer s H E r hg =>
    have SC := sc_is_letter
    have tk := takes_of (X := cxOf (CX P w) P w K mg base ["rank", "value"] d_is_letter.qual d_is_letter.scope (He.fAd K d_is_letter.at_) cdv A outer s H E) rfl rfl rfl rfl
    have ps := passes_of (X := cxOf (CX P w) P w K mg base ["rank", "value"] d_is_letter.qual d_is_letter.scope (He.fAd K d_is_letter.at_) cdv A outer s H E) rfl
    (by exact (sds_one (sd_ret (pm_pp (pp_and (pp_fd (h_is_integer.mono (by decide)) rfl bn_is_integer r hg (aa_cons (pp_name 1) aa_nil) (hfl := (aCons_len aNil_len))) (pp_one (pp_chain o_le o_le pp_int (pp_callB c_abs B.f_abs (aa_cons (pp_name 1) aa_nil)) (pp_name 0))))))))
theorem sc_want_rank : FnScope ["value"] ["value"] d_want_rank.scope := ⟨rfl, rfl, rfl, by decide +kernel, rfl, by decide +kernel, by decide +kernel⟩
theorem ok_want_rank (B : Fx K mg) (h_is_integer : Cal P w K mg base 1 d_is_integer ["value"] F_is_integer) : Cal P w K mg base 2 d_want_rank ["value"] F_want_rank :=
  cal_of (N := ["value"]) (k := 1) (lk := []) B.n_want_rank B.d_want_rank rfl sc_want_rank fun cdv A outer s H E r hg =>
    have SC := sc_want_rank
    have tk := takes_of (X := cxOf (CX P w) P w K mg base ["value"] d_want_rank.qual d_want_rank.scope (He.fAd K d_want_rank.at_) cdv A outer s H E) rfl rfl rfl rfl
    have ps := passes_of (X := cxOf (CX P w) P w K mg base ["value"] d_want_rank.qual d_want_rank.scope (He.fAd K d_want_rank.at_) cdv A outer s H E) rfl
    (by exact (sds_one (sd_if (tm_tp (WP.tp (wp_or (tp_not (tp_val (pp_fd (h_is_integer.mono (by decide)) rfl bn_is_integer r hg (aa_cons (pp_name 0) aa_nil) (hfl := (aCons_len aNil_len))))) (wp_or1 (tp_not (tp_chain o_le o_le pp_int (pp_name 0) (pp_glob (d := .int 4) (v := .int 4) B.c_MOST_RANK.choose_spec ⟨_, rfl⟩ fun _ _ => rfl))))))) (sds_one sd_never) sds_nil)))
theorem sc_want_told : FnScope ["word"] ["word"] d_want_told.scope := ⟨rfl, rfl, rfl, by decide +kernel, rfl, by decide +kernel, by decide +kernel⟩
theorem ok_want_told (B : Fx K mg) (h_want_at_most : Cal P w K mg base 1 d_want_at_most ["what", "limit", "number"] F_want_at_most) : Cal P w K mg base 2 d_want_told ["word"] F_want_told :=
  cal_of (N := ["word"]) (k := 1) (lk := []) B.n_want_told B.d_want_told rfl sc_want_told fun cdv A outer s H E r hg =>
    have SC := sc_want_told
    have tk := takes_of (X := cxOf (CX P w) P w K mg base ["word"] d_want_told.qual d_want_told.scope (He.fAd K d_want_told.at_) cdv A outer s H E) rfl rfl rfl rfl
    have ps := passes_of (X := cxOf (CX P w) P w K mg base ["word"] d_want_told.qual d_want_told.scope (He.fAd K d_want_told.at_) cdv A outer s H E) rfl
    (by exact (sds_cons (sd_expr (pm_pp (pp_fd (h_want_at_most.mono (by decide)) rfl bn_want_at_most r hg (aa_cons pp_str (aa_cons (pp_glob (d := .int 60) (v := .int 60) B.c_MOST_WORD.choose_spec ⟨_, rfl⟩ fun _ _ => rfl) (aa_cons (pp_callB c_len B.f_len (aa_cons (pp_name 0) aa_nil)) aa_nil))) (hfl := (aCons_len (aCons_len (aCons_len aNil_len))))))) (sds_one (sd_ret (pm_pp (pp_name 0))))))
theorem sc_order_key : FnScope ["word", "letter"] ["word"] d_order_key.scope := ⟨rfl, rfl, rfl, by decide +kernel, rfl, by decide +kernel, by decide +kernel⟩
theorem ok_order_key (B : Fx K mg) (h_letter_place : Cal P w K mg base 1 d_letter_place ["letter"] F_letter_place) : Cal P w K mg base 2 d_order_key ["word"] F_order_key :=
  cal_of (N := ["word", "letter"]) (k := 1) (lk := []) B.n_order_key B.d_order_key rfl sc_order_key fun cdv A outer s H E r hg =>
    have SC := sc_order_key
    have tk := takes_of (X := cxOf (CX P w) P w K mg base ["word", "letter"] d_order_key.qual d_order_key.scope (He.fAd K d_order_key.at_) cdv A outer s H E) rfl rfl rfl rfl
    have ps := passes_of (X := cxOf (CX P w) P w K mg base ["word", "letter"] d_order_key.qual d_order_key.scope (He.fAd K d_order_key.at_) cdv A outer s H E) rfl
    (by exact (sds_one (sd_ret (pm_pp (pp_tup (aa_cons (pp_callB c_len B.f_len (aa_cons (pp_name 0) aa_nil)) (aa_cons (pp_lc rfl SC.nd (ip_seq (pp_name 0)) (blkOk_by (own := [("letter", 1)]) (by first | rfl | with_unfolding_all rfl)) (fun _ _ _ _ _ => (gp_name 1 SC.nd)) (fun _ _ _ _ _ => tps_nil) (fun _ _ _ _ _ => (pp_fd (h_letter_place.mono (by decide)) rfl bn_letter_place r hg (aa_cons (pp_name 1) aa_nil) (hfl := (aCons_len aNil_len))))) aa_nil)))))))
theorem sc_put_together : FnScope ["words", "found", "word"] ["words"] d_put_together.scope := ⟨rfl, rfl, rfl, by decide +kernel, rfl, by decide +kernel, by decide +kernel⟩
theorem ok_put_together (B : Fx K mg) (h_reduced_of : Cal P w K mg base 1 d_reduced_of ["row"] F_reduced_of) : Cal P w K mg base 2 d_put_together ["words"] F_put_together :=
  cal_of (N := ["words", "found", "word"]) (k := 1) (lk := []) B.n_put_together B.d_put_together rfl sc_put_together fun cdv A outer s H E r hg =>
    have SC := sc_put_together
    have tk := takes_of (X := cxOf (CX P w) P w K mg base ["words", "found", "word"] d_put_together.qual d_put_together.scope (He.fAd K d_put_together.at_) cdv A outer s H E) rfl rfl rfl rfl
    have ps := passes_of (X := cxOf (CX P w) P w K mg base ["words", "found", "word"] d_put_together.qual d_put_together.scope (He.fAd K d_put_together.at_) cdv A outer s H E) rfl
    (by exact (sds_cons (sd_setO 1 (pm_pp (pp_lst aa_nil)) SC.nd) (sds_cons (sd_for (vs := [2]) ps rfl (ip_seq (pp_name 0)) (gp_name 2 SC.nd) (sds_one (sd_expr (pm_mt 1 l_extend F.slot_list_extend rfl (pm_pp (pp_callT c_list B.f_list (aa_cons (pp_name 2) aa_nil))))))) (sds_one (sd_ret (pm_pp (pp_fd (h_reduced_of.mono (by decide)) rfl bn_reduced_of r hg (aa_cons (pp_name 1) aa_nil) (hfl := (aCons_len aNil_len)))))))))
theorem sc__law_pick : FnScope ["pot", "some"] ["pot", "some"] d__law_pick.scope := ⟨rfl, rfl, rfl, by decide +kernel, rfl, by decide +kernel, by decide +kernel⟩
theorem ok__law_pick (B : Fx K mg) (h__law_draw : Cal P w K mg base 1 d__law_draw ["pot", "many"] F__law_draw) : Cal P w K mg base 2 d__law_pick ["pot", "some"] F__law_pick :=
  cal_of (N := ["pot", "some"]) (k := 1) (lk := [0]) B.n__law_pick B.d__law_pick rfl sc__law_pick fun cdv A outer s H E r hg =>
    have SC := sc__law_pick
    have tk := takes_of (X := cxOf (CX P w) P w K mg base ["pot", "some"] d__law_pick.qual d__law_pick.scope (He.fAd K d__law_pick.at_) cdv A outer s H E) rfl rfl rfl rfl
    have ps := passes_of (X := cxOf (CX P w) P w K mg base ["pot", "some"] d__law_pick.qual d__law_pick.scope (He.fAd K d__law_pick.at_) cdv A outer s H E) rfl
    (by exact (sds_one (sd_ret (pm_ix (pm_pp (pp_name 1)) (pm_fd (h__law_draw.mono (by decide)) rfl bn__law_draw r hg tk (ar_bw 0 (ar_fz (pm_pp (pp_callB c_len B.f_len (aa_cons (pp_name 1) aa_nil))) ar_nil)))))))
theorem sc__law_product : FnScope ["words", "found", "word"] ["words"] d__law_product.scope := ⟨rfl, rfl, rfl, by decide +kernel, rfl, by decide +kernel, by decide +kernel⟩
theorem ok__law_product (B : Fx K mg) (h__law_reduced : Cal P w K mg base 1 d__law_reduced ["row"] F__law_reduced) : Cal P w K mg base 2 d__law_product ["words"] F__law_product :=
  cal_of (N := ["words", "found", "word"]) (k := 1) (lk := []) B.n__law_product B.d__law_product rfl sc__law_product fun cdv A outer s H E r hg =>
    have SC := sc__law_product
    have tk := takes_of (X := cxOf (CX P w) P w K mg base ["words", "found", "word"] d__law_product.qual d__law_product.scope (He.fAd K d__law_product.at_) cdv A outer s H E) rfl rfl rfl rfl
    have ps := passes_of (X := cxOf (CX P w) P w K mg base ["words", "found", "word"] d__law_product.qual d__law_product.scope (He.fAd K d__law_product.at_) cdv A outer s H E) rfl
    (by exact (sds_cons (sd_set 1 (pm_pp (pp_tup aa_nil)) SC.nd) (sds_cons (sd_for (vs := [2]) ps rfl (ip_seq (pp_name 0)) (gp_name 2 SC.nd) (sds_one (sd_set 1 (pm_pp (pp_fd (h__law_reduced.mono (by decide)) rfl bn__law_reduced r hg (aa_cons (pp_bin o_add (pp_name 1) (pp_callT c_tuple B.f_tuple (aa_cons (pp_name 2) aa_nil))) aa_nil) (hfl := (aCons_len aNil_len)))) SC.nd))) (sds_one (sd_ret (pm_pp (pp_name 1)))))))
theorem sc__law_turns : FnScope ["rank", "core", "found", "order", "at", "turn", "places", "letter", "place"] ["rank", "core"] d__law_turns.scope := ⟨rfl, rfl, rfl, by decide +kernel, rfl, by decide +kernel, by decide +kernel⟩
theorem ok__law_turns (B : Fx K mg) (h__law_letters : Cal P w K mg base 1 d__law_letters ["rank"] F__law_letters) : Cal P w K mg base 2 d__law_turns ["rank", "core"] F__law_turns :=
  cal_of (N := ["rank", "core", "found", "order", "at", "turn", "places", "letter", "place"]) (k := 1) (lk := []) B.n__law_turns B.d__law_turns rfl sc__law_turns fun cdv A outer s H E r hg =>
    have SC := sc__law_turns
    have tk := takes_of (X := cxOf (CX P w) P w K mg base ["rank", "core", "found", "order", "at", "turn", "places", "letter", "place"] d__law_turns.qual d__law_turns.scope (He.fAd K d__law_turns.at_) cdv A outer s H E) rfl rfl rfl rfl
    have ps := passes_of (X := cxOf (CX P w) P w K mg base ["rank", "core", "found", "order", "at", "turn", "places", "letter", "place"] d__law_turns.qual d__law_turns.scope (He.fAd K d__law_turns.at_) cdv A outer s H E) rfl
    (by exact (sds_cons (sd_parU 2 3 rfl (ar_ow (pm_pp (pp_lst aa_nil)) (ar_fz (pm_pp (pp_fd (h__law_letters.mono (by decide)) rfl bn__law_letters r hg (aa_cons (pp_name 0) aa_nil) (hfl := (aCons_len aNil_len)))) ar_nil)) SC.nd) (sds_cons (sd_for (vs := [4]) ps rfl (ip_range1 B.f_range (aa_cons (pp_callB (c_max2 rfl) B.f_max (aa_cons pp_int (aa_cons (pp_callB c_len B.f_len (aa_cons (pp_name 1) aa_nil)) aa_nil))) aa_nil)) (gp_name 4 SC.nd) (sds_cons (sd_set 5 (pm_pp (pp_bin o_add (pp_slice (pp_name 1) (op_some (pp_name 4)) op_none) (pp_slice (pp_name 1) op_none (op_some (pp_name 4))))) SC.nd) (sds_one (sd_if (tm_tp (tp_cmp (o_notIn (Room.u65 r)) (pp_name 5) (pp_name 2))) (sds_one (sd_expr (pm_mt 2 l_append F.slot_list_append rfl (pm_pp (pp_name 5))))) sds_nil)))) (sds_cons (sd_set 6 (pm_pp (pp_callB (c_sorted (u70 (Room.u110 r))) B.f_sorted (aa_cons (pp_lc rfl SC.nd (ip_seq (pp_name 2)) (blkOk_by (own := [("turn", 5)]) (by first | rfl | with_unfolding_all rfl)) (fun _ _ _ _ _ => (gp_name 5 SC.nd)) (fun _ _ _ _ _ => tps_nil) (fun _ _ _ _ _ => (pp_tup (aa_cons (pp_lc rfl SC.nd (ip_seq (pp_name 5)) (blkOk_by (own := [("letter", 7)]) (by first | rfl | with_unfolding_all rfl)) (fun _ _ _ _ _ => (gp_name 7 SC.nd)) (fun _ _ _ _ _ => tps_nil) (fun _ _ _ _ _ => (pp_lindex (pp_name 3) (pp_name 7)))) (aa_cons (pp_name 5) aa_nil))))) aa_nil))) SC.nd) (sds_one (sd_ret (pm_pp (pp_lc rfl SC.nd (ip_seq (pp_name 6)) (blkOk_by (own := [("place", 8), ("turn", 5)]) (by first | rfl | with_unfolding_all rfl)) (fun _ _ _ _ _ => (gp_tup rfl (gps_cons (gp_name 8 SC.nd) (gps_cons (gp_name 5 SC.nd) gps_nil)))) (fun _ _ _ _ _ => tps_nil) (fun _ _ _ _ _ => (pp_name 5))))))))))
theorem sc_is_row : FnScope ["rank", "value", "one"] ["rank", "value"] d_is_row.scope := ⟨rfl, rfl, rfl, by decide +kernel, rfl, by decide +kernel, by decide +kernel⟩
theorem ok_is_row (B : Fx K mg) (h_is_letter : Cal P w K mg base 2 d_is_letter ["rank", "value"] F_is_letter) : Cal P w K mg base 3 d_is_row ["rank", "value"] F_is_row :=
  cal_of (N := ["rank", "value", "one"]) (k := 2) (lk := []) B.n_is_row B.d_is_row rfl sc_is_row fun cdv A outer s H E r hg =>
    have SC := sc_is_row
    have tk := takes_of (X := cxOf (CX P w) P w K mg base ["rank", "value", "one"] d_is_row.qual d_is_row.scope (He.fAd K d_is_row.at_) cdv A outer s H E) rfl rfl rfl rfl
    have ps := passes_of (X := cxOf (CX P w) P w K mg base ["rank", "value", "one"] d_is_row.qual d_is_row.scope (He.fAd K d_is_row.at_) cdv A outer s H E) rfl
    (by exact (sds_one (sd_ret (pm_pp (pp_and (pp_isi .tuple B.f_isinstance B.f_tuple (pp_name 1)) (pp_and (pp_cmp o_le (pp_callB c_len B.f_len (aa_cons (pp_name 1) aa_nil)) (pp_glob (d := .int 240) (v := .int 240) B.c_MOST_ROW.choose_spec ⟨_, rfl⟩ fun _ _ => rfl)) (pp_one (pp_callB (c_all rfl) B.f_all (aa_cons (pp_lc rfl SC.nd (ip_seq (pp_name 1)) (blkOk_by (own := [("one", 2)]) (by first | rfl | with_unfolding_all rfl)) (fun _ _ _ _ _ => (gp_name 2 SC.nd)) (fun _ _ _ _ _ => tps_nil) (fun _ _ _ _ _ => (pp_fd (h_is_letter.mono (by decide)) rfl bn_is_letter r hg (aa_cons (pp_name 0) (aa_cons (pp_name 2) aa_nil)) (hfl := (aCons_len (aCons_len aNil_len)))))) aa_nil)))))))))
theorem sc_power_of : FnScope ["word", "many"] ["word", "many"] d_power_of.scope := ⟨rfl, rfl, rfl, by decide +kernel, rfl, by decide +kernel, by decide +kernel⟩
theorem ok_power_of (B : Fx K mg) (h_put_together : Cal P w K mg base 2 d_put_together ["words"] F_put_together) (h_undone_of : Cal P w K mg base 1 d_undone_of ["word"] F_undone_of) : Cal P w K mg base 3 d_power_of ["word", "many"] F_power_of :=
  cal_of (N := ["word", "many"]) (k := 2) (lk := []) B.n_power_of B.d_power_of rfl sc_power_of fun cdv A outer s H E r hg =>
    have SC := sc_power_of
    have tk := takes_of (X := cxOf (CX P w) P w K mg base ["word", "many"] d_power_of.qual d_power_of.scope (He.fAd K d_power_of.at_) cdv A outer s H E) rfl rfl rfl rfl
    have ps := passes_of (X := cxOf (CX P w) P w K mg base ["word", "many"] d_power_of.qual d_power_of.scope (He.fAd K d_power_of.at_) cdv A outer s H E) rfl
    (by exact (sds_one (sd_ret (pm_pp (pp_fd (h_put_together.mono (by decide)) rfl bn_put_together r hg (aa_cons (pp_bin o_mul (pp_lst (aa_cons (pp_if (tp_cmp o_gt (pp_name 1) pp_int) (pp_name 0) (pp_fd (h_undone_of.mono (by decide)) rfl bn_undone_of r hg (aa_cons (pp_name 0) aa_nil) (hfl := (aCons_len aNil_len)))) aa_nil)) (pp_callB c_abs B.f_abs (aa_cons (pp_name 1) aa_nil))) aa_nil) (hfl := (aCons_len aNil_len)))))))
theorem sc_led_of : FnScope ["word", "leader"] ["word", "leader"] d_led_of.scope := ⟨rfl, rfl, rfl, by decide +kernel, rfl, by decide +kernel, by decide +kernel⟩
theorem ok_led_of (B : Fx K mg) (h_put_together : Cal P w K mg base 2 d_put_together ["words"] F_put_together) (h_undone_of : Cal P w K mg base 1 d_undone_of ["word"] F_undone_of) : Cal P w K mg base 3 d_led_of ["word", "leader"] F_led_of :=
  cal_of (N := ["word", "leader"]) (k := 2) (lk := []) B.n_led_of B.d_led_of rfl sc_led_of fun cdv A outer s H E r hg =>
    have SC := sc_led_of
    have tk := takes_of (X := cxOf (CX P w) P w K mg base ["word", "leader"] d_led_of.qual d_led_of.scope (He.fAd K d_led_of.at_) cdv A outer s H E) rfl rfl rfl rfl
    have ps := passes_of (X := cxOf (CX P w) P w K mg base ["word", "leader"] d_led_of.qual d_led_of.scope (He.fAd K d_led_of.at_) cdv A outer s H E) rfl
    (by exact (sds_one (sd_ret (pm_pp (pp_fd (h_put_together.mono (by decide)) rfl bn_put_together r hg (aa_cons (pp_lst (aa_cons (pp_fd (h_undone_of.mono (by decide)) rfl bn_undone_of r hg (aa_cons (pp_name 1) aa_nil) (hfl := (aCons_len aNil_len))) (aa_cons (pp_name 0) (aa_cons (pp_name 1) aa_nil)))) aa_nil) (hfl := (aCons_len aNil_len)))))))
theorem sc__law_word : FnScope ["pot", "rank", "many", "found", "turn", "some", "letter"] ["pot", "rank", "many"] d__law_word.scope := ⟨rfl, rfl, rfl, by decide +kernel, rfl, by decide +kernel, by decide +kernel⟩
theorem ok__law_word (B : Fx K mg) (h__law_letters : Cal P w K mg base 1 d__law_letters ["rank"] F__law_letters) (h__law_pick : Cal P w K mg base 2 d__law_pick ["pot", "some"] F__law_pick) : Cal P w K mg base 3 d__law_word ["pot", "rank", "many"] F__law_word :=
  cal_of (N := ["pot", "rank", "many", "found", "turn", "some", "letter"]) (k := 2) (lk := [0]) B.n__law_word B.d__law_word rfl sc__law_word fun cdv A outer s H E r hg =>
    have SC := sc__law_word
    have tk := takes_of (X := cxOf (CX P w) P w K mg base ["pot", "rank", "many", "found", "turn", "some", "letter"] d__law_word.qual d__law_word.scope (He.fAd K d__law_word.at_) cdv A outer s H E) rfl rfl rfl rfl
    have ps := passes_of (X := cxOf (CX P w) P w K mg base ["pot", "rank", "many", "found", "turn", "some", "letter"] d__law_word.qual d__law_word.scope (He.fAd K d__law_word.at_) cdv A outer s H E) rfl
    (by exact (sds_cons (sd_set 3 (pm_pp (pp_tup aa_nil)) SC.nd) (sds_cons (sd_for (vs := [4]) ps rfl (ip_range1 B.f_range (aa_cons (pp_name 2) aa_nil)) (gp_name 4 SC.nd) (sds_cons (sd_setLc 5 rfl SC.nd (by first | exact sw_true rfl rfl rfl rfl | with_unfolding_all rfl) (ip_seq (pp_fd (h__law_letters.mono (by decide)) rfl bn__law_letters r hg (aa_cons (pp_name 1) aa_nil) (hfl := (aCons_len aNil_len)))) (blkOk_by (own := [("letter", 6)]) (by first | rfl | with_unfolding_all rfl)) (fun _ _ _ _ _ => (gp_name 6 SC.nd)) (fun _ _ _ _ _ => (tps_one (WP.tp (wp_or (tp_cmp (o_eq (Room.u64 r)) (pp_name 3) (pp_tup aa_nil)) (wp_or1 (tp_cmp (o_ne (Room.u64 r)) (pp_name 6) (pp_bin o_sub pp_int (pp_ix (pp_name 3) (pp_un o_neg pp_int))))))))) (fun _ _ _ _ _ => (pp_name 6))) (sds_one (sd_set 3 (pm_bin o_add (pm_pp (pp_name 3)) (pm_tup (am_cons (pm_fd (h__law_pick.mono (by decide)) rfl bn__law_pick r hg tk (ar_bw 0 (ar_fz (pm_pp (pp_name 5)) ar_nil))) am_nil))) SC.nd)))) (sds_one (sd_ret (pm_pp (pp_name 3)))))))
theorem sc_is_word : FnScope ["rank", "value"] ["rank", "value"] d_is_word.scope := ⟨rfl, rfl, rfl, by decide +kernel, rfl, by decide +kernel, by decide +kernel⟩
theorem ok_is_word (B : Fx K mg) (h_is_reduced : Cal P w K mg base 1 d_is_reduced ["row"] F_is_reduced) (h_is_row : Cal P w K mg base 3 d_is_row ["rank", "value"] F_is_row) : Cal P w K mg base 4 d_is_word ["rank", "value"] F_is_word :=
  cal_of (N := ["rank", "value"]) (k := 3) (lk := []) B.n_is_word B.d_is_word rfl sc_is_word fun cdv A outer s H E r hg =>
    have SC := sc_is_word
    have tk := takes_of (X := cxOf (CX P w) P w K mg base ["rank", "value"] d_is_word.qual d_is_word.scope (He.fAd K d_is_word.at_) cdv A outer s H E) rfl rfl rfl rfl
    have ps := passes_of (X := cxOf (CX P w) P w K mg base ["rank", "value"] d_is_word.qual d_is_word.scope (He.fAd K d_is_word.at_) cdv A outer s H E) rfl
    (by exact (sds_one (sd_ret (pm_pp (pp_and (pp_fd (h_is_row.mono (by decide)) rfl bn_is_row r hg (aa_cons (pp_name 0) (aa_cons (pp_name 1) aa_nil)) (hfl := (aCons_len (aCons_len aNil_len)))) (pp_and (pp_cmp o_le (pp_callB c_len B.f_len (aa_cons (pp_name 1) aa_nil)) (pp_glob (d := .int 60) (v := .int 60) B.c_MOST_WORD.choose_spec ⟨_, rfl⟩ fun _ _ => rfl)) (pp_one (pp_fd (h_is_reduced.mono (by decide)) rfl bn_is_reduced r hg (aa_cons (pp_name 1) aa_nil) (hfl := (aCons_len aNil_len))))))))))
theorem sc_leader_of : FnScope ["word", "other", "head", "core", "late", "goal", "some", "ways", "at", "turn"] ["word", "other"] d_leader_of.scope := ⟨rfl, rfl, rfl, by decide +kernel, rfl, by decide +kernel, by decide +kernel⟩
theorem ok_leader_of (B : Fx K mg) (h_order_key : Cal P w K mg base 2 d_order_key ["word"] F_order_key) (h_put_together : Cal P w K mg base 2 d_put_together ["words"] F_put_together) (h_ring_of : Cal P w K mg base 1 d_ring_of ["word"] F_ring_of) (h_turns_of : Cal P w K mg base 1 d_turns_of ["core"] F_turns_of) (h_undone_of : Cal P w K mg base 1 d_undone_of ["word"] F_undone_of) : Cal P w K mg base 4 d_leader_of ["word", "other"] F_leader_of :=
  cal_of (N := ["word", "other", "head", "core", "late", "goal", "some", "ways", "at", "turn"]) (k := 3) (lk := []) B.n_leader_of B.d_leader_of rfl sc_leader_of fun cdv A outer s H E r hg =>
    have SC := sc_leader_of
    have tk := takes_of (X := cxOf (CX P w) P w K mg base ["word", "other", "head", "core", "late", "goal", "some", "ways", "at", "turn"] d_leader_of.qual d_leader_of.scope (He.fAd K d_leader_of.at_) cdv A outer s H E) rfl rfl rfl rfl
    have ps := passes_of (X := cxOf (CX P w) P w K mg base ["word", "other", "head", "core", "late", "goal", "some", "ways", "at", "turn"] d_leader_of.qual d_leader_of.scope (He.fAd K d_leader_of.at_) cdv A outer s H E) rfl
    (by exact (sds_cons (sd_asg (pm_pp (pp_tup (aa_cons (pp_fd (h_ring_of.mono (by decide)) rfl bn_ring_of r hg (aa_cons (pp_name 0) aa_nil) (hfl := (aCons_len aNil_len))) (aa_cons (pp_fd (h_ring_of.mono (by decide)) rfl bn_ring_of r hg (aa_cons (pp_name 1) aa_nil) (hfl := (aCons_len aNil_len))) aa_nil)))) (ge_tup rfl (ges_cons (ge_tup rfl (ges_cons (ge_gp (vs := [2]) (gp_name 2 SC.nd)) (ges_cons (ge_gp (vs := [3]) (gp_name 3 SC.nd)) ges_nil))) (ges_cons (ge_tup rfl (ges_cons (ge_gp (vs := [4]) (gp_name 4 SC.nd)) (ges_cons (ge_gp (vs := [5]) (gp_name 5 SC.nd)) ges_nil))) ges_nil)))) (sds_cons (sd_if (tm_tp (tp_cmp (o_ne (Room.u64 r)) (pp_callB c_len B.f_len (aa_cons (pp_name 3) aa_nil)) (pp_callB c_len B.f_len (aa_cons (pp_name 5) aa_nil)))) (sds_one (sd_ret (pm_pp pp_non))) sds_nil) (sds_cons (sd_if (tm_tp (tp_cmp (o_eq (Room.u64 r)) (pp_name 3) (pp_tup aa_nil))) (sds_one (sd_ret (pm_pp (pp_tup aa_nil)))) sds_nil) (sds_cons (sd_setLc 6 rfl SC.nd (by first | exact sw_true rfl rfl rfl rfl | with_unfolding_all rfl) (ip_enum B.f_enumerate (aa_cons (pp_fd (h_turns_of.mono (by decide)) rfl bn_turns_of r hg (aa_cons (pp_name 3) aa_nil) (hfl := (aCons_len aNil_len))) aa_nil)) (blkOk_by (own := [("at", 8), ("turn", 9)]) (by first | rfl | with_unfolding_all rfl)) (fun _ _ _ _ _ => (gp_tup rfl (gps_cons (gp_name 8 SC.nd) (gps_cons (gp_name 9 SC.nd) gps_nil)))) (fun _ _ _ _ _ => (tps_one (tp_cmp (o_eq (Room.u64 r)) (pp_name 9) (pp_name 5)))) (fun _ _ _ _ _ => (pp_name 8))) (sds_cons (sd_if (tm_tp (tp_cmp (o_eq (Room.u64 r)) (pp_name 6) (pp_lst aa_nil))) (sds_one (sd_ret (pm_pp pp_non))) sds_nil) (sds_cons (sd_setOLc 7 rfl SC.nd (by first | exact sw_true rfl rfl rfl rfl | with_unfolding_all rfl) (ip_seq (pp_name 6)) (blkOk_by (own := [("at", 8)]) (by first | rfl | with_unfolding_all rfl)) (fun _ _ _ _ _ => (gp_name 8 SC.nd)) (fun _ _ _ _ _ => tps_nil) (fun _ _ _ _ _ => (pp_fd (h_put_together.mono (by decide)) rfl bn_put_together r hg (aa_cons (pp_lst (aa_cons (pp_name 2) (aa_cons (pp_slice (pp_name 3) op_none (op_some (pp_name 8))) (aa_cons (pp_fd (h_undone_of.mono (by decide)) rfl bn_undone_of r hg (aa_cons (pp_name 4) aa_nil) (hfl := (aCons_len aNil_len))) aa_nil)))) aa_nil) (hfl := (aCons_len aNil_len))))) (sds_cons (sd_expr (pm_mt 7 l_extend F.slot_list_extend rfl (pm_pp (pp_lc rfl SC.nd (ip_seq (pp_name 6)) (blkOk_by (own := [("at", 8)]) (by first | rfl | with_unfolding_all rfl)) (fun _ _ _ _ _ => (gp_name 8 SC.nd)) (fun _ _ _ _ _ => tps_nil) (fun _ _ _ _ _ => (pp_fd (h_put_together.mono (by decide)) rfl bn_put_together r hg (aa_cons (pp_lst (aa_cons (pp_name 2) (aa_cons (pp_fd (h_undone_of.mono (by decide)) rfl bn_undone_of r hg (aa_cons (pp_slice (pp_name 3) (op_some (pp_name 8)) op_none) aa_nil) (hfl := (aCons_len aNil_len))) (aa_cons (pp_fd (h_undone_of.mono (by decide)) rfl bn_undone_of r hg (aa_cons (pp_name 4) aa_nil) (hfl := (aCons_len aNil_len))) aa_nil)))) aa_nil) (hfl := (aCons_len aNil_len)))))))) (sds_one (sd_ret (pm_pp (pp_ix (pp_sortK (h_order_key.mono (by decide)) rfl bn_order_key r hg B.f_sorted (pp_name 7)) pp_int))))))))))))
theorem sc_want_word : FnScope ["rank", "value"] ["rank", "value"] d_want_word.scope := ⟨rfl, rfl, rfl, by decide +kernel, rfl, by decide +kernel, by decide +kernel⟩
theorem ok_want_word (B : Fx K mg) (h_is_word : Cal P w K mg base 4 d_is_word ["rank", "value"] F_is_word) : Cal P w K mg base 5 d_want_word ["rank", "value"] F_want_word :=
  cal_of (N := ["rank", "value"]) (k := 4) (lk := []) B.n_want_word B.d_want_word rfl sc_want_word fun cdv A outer s H E r hg =>
    have SC := sc_want_word
    have tk := takes_of (X := cxOf (CX P w) P w K mg base ["rank", "value"] d_want_word.qual d_want_word.scope (He.fAd K d_want_word.at_) cdv A outer s H E) rfl rfl rfl rfl
    have ps := passes_of (X := cxOf (CX P w) P w K mg base ["rank", "value"] d_want_word.qual d_want_word.scope (He.fAd K d_want_word.at_) cdv A outer s H E) rfl
    (by exact (sds_one (sd_if (tm_tp (tp_not (tp_val (pp_fd (h_is_word.mono (by decide)) rfl bn_is_word r hg (aa_cons (pp_name 0) (aa_cons (pp_name 1) aa_nil)) (hfl := (aCons_len (aCons_len aNil_len))))))) (sds_one sd_never) sds_nil)))
theorem sc_want_words : FnScope ["rank", "value", "one"] ["rank", "value"] d_want_words.scope := ⟨rfl, rfl, rfl, by decide +kernel, rfl, by decide +kernel, by decide +kernel⟩
theorem ok_want_words (B : Fx K mg) (h_is_list : Cal P w K mg base 1 d_is_list ["value"] F_is_list) (h_is_word : Cal P w K mg base 4 d_is_word ["rank", "value"] F_is_word) : Cal P w K mg base 5 d_want_words ["rank", "value"] F_want_words :=
  cal_of (N := ["rank", "value", "one"]) (k := 4) (lk := []) B.n_want_words B.d_want_words rfl sc_want_words fun cdv A outer s H E r hg =>
    have SC := sc_want_words
    have tk := takes_of (X := cxOf (CX P w) P w K mg base ["rank", "value", "one"] d_want_words.qual d_want_words.scope (He.fAd K d_want_words.at_) cdv A outer s H E) rfl rfl rfl rfl
    have ps := passes_of (X := cxOf (CX P w) P w K mg base ["rank", "value", "one"] d_want_words.qual d_want_words.scope (He.fAd K d_want_words.at_) cdv A outer s H E) rfl
    (by exact (sds_one (sd_if (tm_tp (WP.tp (wp_or (tp_not (tp_val (pp_fd (h_is_list.mono (by decide)) rfl bn_is_list r hg (aa_cons (pp_name 1) aa_nil) (hfl := (aCons_len aNil_len))))) (wp_or (tp_cmp o_gt (pp_callB c_len B.f_len (aa_cons (pp_name 1) aa_nil)) (pp_glob (d := .int 40) (v := .int 40) B.c_MOST_WORDS.choose_spec ⟨_, rfl⟩ fun _ _ => rfl)) (wp_or1 (tp_not (tp_val (pp_callB (c_all rfl) B.f_all (aa_cons (pp_lc rfl SC.nd (ip_seq (pp_name 1)) (blkOk_by (own := [("one", 2)]) (by first | rfl | with_unfolding_all rfl)) (fun _ _ _ _ _ => (gp_name 2 SC.nd)) (fun _ _ _ _ _ => tps_nil) (fun _ _ _ _ _ => (pp_fd (h_is_word.mono (by decide)) rfl bn_is_word r hg (aa_cons (pp_name 0) (aa_cons (pp_name 2) aa_nil)) (hfl := (aCons_len (aCons_len aNil_len)))))) aa_nil))))))))) (sds_one sd_never) sds_nil)))
theorem sc_want_ranked : FnScope ["rank", "word"] ["rank", "word"] d_want_ranked.scope := ⟨rfl, rfl, rfl, by decide +kernel, rfl, by decide +kernel, by decide +kernel⟩
theorem ok_want_ranked (B : Fx K mg) (h_want_rank : Cal P w K mg base 2 d_want_rank ["value"] F_want_rank) (h_want_word : Cal P w K mg base 5 d_want_word ["rank", "value"] F_want_word) : Cal P w K mg base 6 d_want_ranked ["rank", "word"] F_want_ranked :=
  cal_of (N := ["rank", "word"]) (k := 5) (lk := []) B.n_want_ranked B.d_want_ranked rfl sc_want_ranked fun cdv A outer s H E r hg =>
    have SC := sc_want_ranked
    have tk := takes_of (X := cxOf (CX P w) P w K mg base ["rank", "word"] d_want_ranked.qual d_want_ranked.scope (He.fAd K d_want_ranked.at_) cdv A outer s H E) rfl rfl rfl rfl
    have ps := passes_of (X := cxOf (CX P w) P w K mg base ["rank", "word"] d_want_ranked.qual d_want_ranked.scope (He.fAd K d_want_ranked.at_) cdv A outer s H E) rfl
    (by exact (sds_cons (sd_expr (pm_pp (pp_fd (h_want_rank.mono (by decide)) rfl bn_want_rank r hg (aa_cons (pp_name 0) aa_nil) (hfl := (aCons_len aNil_len))))) (sds_one (sd_expr (pm_pp (pp_fd (h_want_word.mono (by decide)) rfl bn_want_word r hg (aa_cons (pp_name 0) (aa_cons (pp_name 1) aa_nil)) (hfl := (aCons_len (aCons_len aNil_len)))))))))
theorem sc_product : FnScope ["rank", "words"] ["rank", "words"] d_product.scope := ⟨rfl, rfl, rfl, by decide +kernel, rfl, by decide +kernel, by decide +kernel⟩
theorem ok_product (B : Fx K mg) (h_put_together : Cal P w K mg base 2 d_put_together ["words"] F_put_together) (h_want_rank : Cal P w K mg base 2 d_want_rank ["value"] F_want_rank) (h_want_told : Cal P w K mg base 2 d_want_told ["word"] F_want_told) (h_want_words : Cal P w K mg base 5 d_want_words ["rank", "value"] F_want_words) : Cal P w K mg base 6 d_product ["rank", "words"] F_product :=
  cal_of (N := ["rank", "words"]) (k := 5) (lk := []) B.n_product B.d_product rfl sc_product fun cdv A outer s H E r hg =>
    have SC := sc_product
    have tk := takes_of (X := cxOf (CX P w) P w K mg base ["rank", "words"] d_product.qual d_product.scope (He.fAd K d_product.at_) cdv A outer s H E) rfl rfl rfl rfl
    have ps := passes_of (X := cxOf (CX P w) P w K mg base ["rank", "words"] d_product.qual d_product.scope (He.fAd K d_product.at_) cdv A outer s H E) rfl
    (by exact (sds_cons (sd_expr (pm_pp (pp_fd (h_want_rank.mono (by decide)) rfl bn_want_rank r hg (aa_cons (pp_name 0) aa_nil) (hfl := (aCons_len aNil_len))))) (sds_cons (sd_expr (pm_pp (pp_fd (h_want_words.mono (by decide)) rfl bn_want_words r hg (aa_cons (pp_name 0) (aa_cons (pp_name 1) aa_nil)) (hfl := (aCons_len (aCons_len aNil_len)))))) (sds_one (sd_ret (pm_pp (pp_fd (h_want_told.mono (by decide)) rfl bn_want_told r hg (aa_cons (pp_fd (h_put_together.mono (by decide)) rfl bn_put_together r hg (aa_cons (pp_name 1) aa_nil) (hfl := (aCons_len aNil_len))) aa_nil) (hfl := (aCons_len aNil_len)))))))))
theorem sc_power : FnScope ["rank", "word", "exponent"] ["rank", "word", "exponent"] d_power.scope := ⟨rfl, rfl, rfl, by decide +kernel, rfl, by decide +kernel, by decide +kernel⟩
theorem ok_power (B : Fx K mg) (h_is_integer : Cal P w K mg base 1 d_is_integer ["value"] F_is_integer) (h_power_of : Cal P w K mg base 3 d_power_of ["word", "many"] F_power_of) (h_want_ranked : Cal P w K mg base 6 d_want_ranked ["rank", "word"] F_want_ranked) (h_want_told : Cal P w K mg base 2 d_want_told ["word"] F_want_told) : Cal P w K mg base 7 d_power ["rank", "word", "exponent"] F_power :=
  cal_of (N := ["rank", "word", "exponent"]) (k := 6) (lk := []) B.n_power B.d_power rfl sc_power fun cdv A outer s H E r hg =>
    have SC := sc_power
    have tk := takes_of (X := cxOf (CX P w) P w K mg base ["rank", "word", "exponent"] d_power.qual d_power.scope (He.fAd K d_power.at_) cdv A outer s H E) rfl rfl rfl rfl
    have ps := passes_of (X := cxOf (CX P w) P w K mg base ["rank", "word", "exponent"] d_power.qual d_power.scope (He.fAd K d_power.at_) cdv A outer s H E) rfl
    (by exact (sds_cons (sd_expr (pm_pp (pp_fd (h_want_ranked.mono (by decide)) rfl bn_want_ranked r hg (aa_cons (pp_name 0) (aa_cons (pp_name 1) aa_nil)) (hfl := (aCons_len (aCons_len aNil_len)))))) (sds_cons (sd_if (tm_tp (WP.tp (wp_or (tp_not (tp_val (pp_fd (h_is_integer.mono (by decide)) rfl bn_is_integer r hg (aa_cons (pp_name 2) aa_nil) (hfl := (aCons_len aNil_len))))) (wp_or1 (tp_cmp o_gt (pp_callB c_abs B.f_abs (aa_cons (pp_name 2) aa_nil)) (pp_glob (d := .int 99) (v := .int 99) B.c_MOST_EXPONENT.choose_spec ⟨_, rfl⟩ fun _ _ => rfl)))))) (sds_one sd_never) sds_nil) (sds_one (sd_ret (pm_pp (pp_fd (h_want_told.mono (by decide)) rfl bn_want_told r hg (aa_cons (pp_fd (h_power_of.mono (by decide)) rfl bn_power_of r hg (aa_cons (pp_name 1) (aa_cons (pp_name 2) aa_nil)) (hfl := (aCons_len (aCons_len aNil_len)))) aa_nil) (hfl := (aCons_len aNil_len)))))))))
theorem sc_is_before : FnScope ["rank", "word", "other"] ["rank", "word", "other"] d_is_before.scope := ⟨rfl, rfl, rfl, by decide +kernel, rfl, by decide +kernel, by decide +kernel⟩
theorem ok_is_before (B : Fx K mg) (h_order_key : Cal P w K mg base 2 d_order_key ["word"] F_order_key) (h_want_ranked : Cal P w K mg base 6 d_want_ranked ["rank", "word"] F_want_ranked) (h_want_word : Cal P w K mg base 5 d_want_word ["rank", "value"] F_want_word) : Cal P w K mg base 7 d_is_before ["rank", "word", "other"] F_is_before :=
  cal_of (N := ["rank", "word", "other"]) (k := 6) (lk := []) B.n_is_before B.d_is_before rfl sc_is_before fun cdv A outer s H E r hg =>
    have SC := sc_is_before
    have tk := takes_of (X := cxOf (CX P w) P w K mg base ["rank", "word", "other"] d_is_before.qual d_is_before.scope (He.fAd K d_is_before.at_) cdv A outer s H E) rfl rfl rfl rfl
    have ps := passes_of (X := cxOf (CX P w) P w K mg base ["rank", "word", "other"] d_is_before.qual d_is_before.scope (He.fAd K d_is_before.at_) cdv A outer s H E) rfl
    (by exact (sds_cons (sd_expr (pm_pp (pp_fd (h_want_ranked.mono (by decide)) rfl bn_want_ranked r hg (aa_cons (pp_name 0) (aa_cons (pp_name 1) aa_nil)) (hfl := (aCons_len (aCons_len aNil_len)))))) (sds_cons (sd_expr (pm_pp (pp_fd (h_want_word.mono (by decide)) rfl bn_want_word r hg (aa_cons (pp_name 0) (aa_cons (pp_name 2) aa_nil)) (hfl := (aCons_len (aCons_len aNil_len)))))) (sds_one (sd_ret (pm_pp (pp_cmp (o_ltD (Room.u64 r)) (pp_fd (h_order_key.mono (by decide)) rfl bn_order_key r hg (aa_cons (pp_name 1) aa_nil) (hfl := (aCons_len aNil_len))) (pp_fd (h_order_key.mono (by decide)) rfl bn_order_key r hg (aa_cons (pp_name 2) aa_nil) (hfl := (aCons_len aNil_len))))))))))
theorem sc_want_two : FnScope ["rank", "word", "other"] ["rank", "word", "other"] d_want_two.scope := ⟨rfl, rfl, rfl, by decide +kernel, rfl, by decide +kernel, by decide +kernel⟩
theorem ok_want_two (B : Fx K mg) (h_want_ranked : Cal P w K mg base 6 d_want_ranked ["rank", "word"] F_want_ranked) (h_want_word : Cal P w K mg base 5 d_want_word ["rank", "value"] F_want_word) : Cal P w K mg base 7 d_want_two ["rank", "word", "other"] F_want_two :=
  cal_of (N := ["rank", "word", "other"]) (k := 6) (lk := []) B.n_want_two B.d_want_two rfl sc_want_two fun cdv A outer s H E r hg =>
    have SC := sc_want_two
    have tk := takes_of (X := cxOf (CX P w) P w K mg base ["rank", "word", "other"] d_want_two.qual d_want_two.scope (He.fAd K d_want_two.at_) cdv A outer s H E) rfl rfl rfl rfl
    have ps := passes_of (X := cxOf (CX P w) P w K mg base ["rank", "word", "other"] d_want_two.qual d_want_two.scope (He.fAd K d_want_two.at_) cdv A outer s H E) rfl
    (by exact (sds_cons (sd_expr (pm_pp (pp_fd (h_want_ranked.mono (by decide)) rfl bn_want_ranked r hg (aa_cons (pp_name 0) (aa_cons (pp_name 1) aa_nil)) (hfl := (aCons_len (aCons_len aNil_len)))))) (sds_one (sd_expr (pm_pp (pp_fd (h_want_word.mono (by decide)) rfl bn_want_word r hg (aa_cons (pp_name 0) (aa_cons (pp_name 2) aa_nil)) (hfl := (aCons_len (aCons_len aNil_len)))))))))
theorem sc_is_ring_word : FnScope ["rank", "word"] ["rank", "word"] d_is_ring_word.scope := ⟨rfl, rfl, rfl, by decide +kernel, rfl, by decide +kernel, by decide +kernel⟩
theorem ok_is_ring_word (B : Fx K mg) (h_is_ring : Cal P w K mg base 1 d_is_ring ["word"] F_is_ring) (h_want_ranked : Cal P w K mg base 6 d_want_ranked ["rank", "word"] F_want_ranked) : Cal P w K mg base 7 d_is_ring_word ["rank", "word"] F_is_ring_word :=
  cal_of (N := ["rank", "word"]) (k := 6) (lk := []) B.n_is_ring_word B.d_is_ring_word rfl sc_is_ring_word fun cdv A outer s H E r hg =>
    have SC := sc_is_ring_word
    have tk := takes_of (X := cxOf (CX P w) P w K mg base ["rank", "word"] d_is_ring_word.qual d_is_ring_word.scope (He.fAd K d_is_ring_word.at_) cdv A outer s H E) rfl rfl rfl rfl
    have ps := passes_of (X := cxOf (CX P w) P w K mg base ["rank", "word"] d_is_ring_word.qual d_is_ring_word.scope (He.fAd K d_is_ring_word.at_) cdv A outer s H E) rfl
    (by exact (sds_cons (sd_expr (pm_pp (pp_fd (h_want_ranked.mono (by decide)) rfl bn_want_ranked r hg (aa_cons (pp_name 0) (aa_cons (pp_name 1) aa_nil)) (hfl := (aCons_len (aCons_len aNil_len)))))) (sds_one (sd_ret (pm_pp (pp_fd (h_is_ring.mono (by decide)) rfl bn_is_ring r hg (aa_cons (pp_name 1) aa_nil) (hfl := (aCons_len aNil_len))))))))
theorem sc_ring_core : FnScope ["rank", "word"] ["rank", "word"] d_ring_core.scope := ⟨rfl, rfl, rfl, by decide +kernel, rfl, by decide +kernel, by decide +kernel⟩
theorem ok_ring_core (B : Fx K mg) (h_ring_of : Cal P w K mg base 1 d_ring_of ["word"] F_ring_of) (h_want_ranked : Cal P w K mg base 6 d_want_ranked ["rank", "word"] F_want_ranked) : Cal P w K mg base 7 d_ring_core ["rank", "word"] F_ring_core :=
  cal_of (N := ["rank", "word"]) (k := 6) (lk := []) B.n_ring_core B.d_ring_core rfl sc_ring_core fun cdv A outer s H E r hg =>
    have SC := sc_ring_core
    have tk := takes_of (X := cxOf (CX P w) P w K mg base ["rank", "word"] d_ring_core.qual d_ring_core.scope (He.fAd K d_ring_core.at_) cdv A outer s H E) rfl rfl rfl rfl
    have ps := passes_of (X := cxOf (CX P w) P w K mg base ["rank", "word"] d_ring_core.qual d_ring_core.scope (He.fAd K d_ring_core.at_) cdv A outer s H E) rfl
    (by exact (sds_cons (sd_expr (pm_pp (pp_fd (h_want_ranked.mono (by decide)) rfl bn_want_ranked r hg (aa_cons (pp_name 0) (aa_cons (pp_name 1) aa_nil)) (hfl := (aCons_len (aCons_len aNil_len)))))) (sds_one (sd_ret (pm_pp (pp_fd (h_ring_of.mono (by decide)) rfl bn_ring_of r hg (aa_cons (pp_name 1) aa_nil) (hfl := (aCons_len aNil_len))))))))
theorem sc_ring_turns : FnScope ["rank", "word", "core", "turn"] ["rank", "word"] d_ring_turns.scope := ⟨rfl, rfl, rfl, by decide +kernel, rfl, by decide +kernel, by decide +kernel⟩
theorem ok_ring_turns (B : Fx K mg) (h_order_key : Cal P w K mg base 2 d_order_key ["word"] F_order_key) (h_ring_of : Cal P w K mg base 1 d_ring_of ["word"] F_ring_of) (h_turns_of : Cal P w K mg base 1 d_turns_of ["core"] F_turns_of) (h_want_ranked : Cal P w K mg base 6 d_want_ranked ["rank", "word"] F_want_ranked) : Cal P w K mg base 7 d_ring_turns ["rank", "word"] F_ring_turns :=
  cal_of (N := ["rank", "word", "core", "turn"]) (k := 6) (lk := []) B.n_ring_turns B.d_ring_turns rfl sc_ring_turns fun cdv A outer s H E r hg =>
    have SC := sc_ring_turns
    have tk := takes_of (X := cxOf (CX P w) P w K mg base ["rank", "word", "core", "turn"] d_ring_turns.qual d_ring_turns.scope (He.fAd K d_ring_turns.at_) cdv A outer s H E) rfl rfl rfl rfl
    have ps := passes_of (X := cxOf (CX P w) P w K mg base ["rank", "word", "core", "turn"] d_ring_turns.qual d_ring_turns.scope (He.fAd K d_ring_turns.at_) cdv A outer s H E) rfl
    (by exact (sds_cons (sd_expr (pm_pp (pp_fd (h_want_ranked.mono (by decide)) rfl bn_want_ranked r hg (aa_cons (pp_name 0) (aa_cons (pp_name 1) aa_nil)) (hfl := (aCons_len (aCons_len aNil_len)))))) (sds_cons (sd_set 2 (pm_pp (pp_ix (pp_fd (h_ring_of.mono (by decide)) rfl bn_ring_of r hg (aa_cons (pp_name 1) aa_nil) (hfl := (aCons_len aNil_len))) pp_int)) SC.nd) (sds_one (sd_ret (pm_pp (pp_if (tp_cmp (o_ne (Room.u64 r)) (pp_name 2) (pp_tup aa_nil)) (pp_sortD (h_order_key.mono (by decide)) rfl bn_order_key r hg B.f_sorted rfl SC.nd (u0 (Room.u110 r)) (ip_seq (pp_fd (h_turns_of.mono (by decide)) rfl bn_turns_of r hg (aa_cons (pp_name 2) aa_nil) (hfl := (aCons_len aNil_len)))) (blkOk_by (own := [("turn", 3)]) (by first | rfl | with_unfolding_all rfl)) (fun _ _ _ _ _ => (gp_name 3 SC.nd)) (fun _ _ _ _ _ => (pp_name 3))) (pp_lst (aa_cons (pp_tup aa_nil) aa_nil)))))))))
theorem sc_led : FnScope ["rank", "word", "other"] ["rank", "word", "other"] d_led.scope := ⟨rfl, rfl, rfl, by decide +kernel, rfl, by decide +kernel, by decide +kernel⟩
theorem ok_led (B : Fx K mg) (h_led_of : Cal P w K mg base 3 d_led_of ["word", "leader"] F_led_of) (h_want_told : Cal P w K mg base 2 d_want_told ["word"] F_want_told) (h_want_two : Cal P w K mg base 7 d_want_two ["rank", "word", "other"] F_want_two) : Cal P w K mg base 8 d_led ["rank", "word", "other"] F_led :=
  cal_of (N := ["rank", "word", "other"]) (k := 7) (lk := []) B.n_led B.d_led rfl sc_led fun cdv A outer s H E r hg =>
    have SC := sc_led
    have tk := takes_of (X := cxOf (CX P w) P w K mg base ["rank", "word", "other"] d_led.qual d_led.scope (He.fAd K d_led.at_) cdv A outer s H E) rfl rfl rfl rfl
    have ps := passes_of (X := cxOf (CX P w) P w K mg base ["rank", "word", "other"] d_led.qual d_led.scope (He.fAd K d_led.at_) cdv A outer s H E) rfl
    (by exact (sds_cons (sd_expr (pm_pp (pp_fd (h_want_two.mono (by decide)) rfl bn_want_two r hg (aa_cons (pp_name 0) (aa_cons (pp_name 1) (aa_cons (pp_name 2) aa_nil))) (hfl := (aCons_len (aCons_len (aCons_len aNil_len))))))) (sds_one (sd_ret (pm_pp (pp_fd (h_want_told.mono (by decide)) rfl bn_want_told r hg (aa_cons (pp_fd (h_led_of.mono (by decide)) rfl bn_led_of r hg (aa_cons (pp_name 1) (aa_cons (pp_name 2) aa_nil)) (hfl := (aCons_len (aCons_len aNil_len)))) aa_nil) (hfl := (aCons_len aNil_len))))))))
theorem sc_are_led : FnScope ["rank", "word", "other"] ["rank", "word", "other"] d_are_led.scope := ⟨rfl, rfl, rfl, by decide +kernel, rfl, by decide +kernel, by decide +kernel⟩
theorem ok_are_led (B : Fx K mg) (h_leader_of : Cal P w K mg base 4 d_leader_of ["word", "other"] F_leader_of) (h_want_two : Cal P w K mg base 7 d_want_two ["rank", "word", "other"] F_want_two) : Cal P w K mg base 8 d_are_led ["rank", "word", "other"] F_are_led :=
  cal_of (N := ["rank", "word", "other"]) (k := 7) (lk := []) B.n_are_led B.d_are_led rfl sc_are_led fun cdv A outer s H E r hg =>
    have SC := sc_are_led
    have tk := takes_of (X := cxOf (CX P w) P w K mg base ["rank", "word", "other"] d_are_led.qual d_are_led.scope (He.fAd K d_are_led.at_) cdv A outer s H E) rfl rfl rfl rfl
    have ps := passes_of (X := cxOf (CX P w) P w K mg base ["rank", "word", "other"] d_are_led.qual d_are_led.scope (He.fAd K d_are_led.at_) cdv A outer s H E) rfl
    (by exact (sds_cons (sd_expr (pm_pp (pp_fd (h_want_two.mono (by decide)) rfl bn_want_two r hg (aa_cons (pp_name 0) (aa_cons (pp_name 1) (aa_cons (pp_name 2) aa_nil))) (hfl := (aCons_len (aCons_len (aCons_len aNil_len))))))) (sds_one (sd_ret (pm_pp (pp_cmp o_isNot (pp_fd (h_leader_of.mono (by decide)) rfl bn_leader_of r hg (aa_cons (pp_name 1) (aa_cons (pp_name 2) aa_nil)) (hfl := (aCons_len (aCons_len aNil_len)))) pp_non))))))
theorem sc__law_one_right : FnScope ["rank", "word", "head", "core", "due", "exponent", "base", "late", "turns", "told", "at", "near", "far", "turn"] ["rank", "word"] d__law_one_right.scope := ⟨rfl, rfl, rfl, by decide +kernel, rfl, by decide +kernel, by decide +kernel⟩
theorem ok__law_one_right (B : Fx K mg) (h__law_part : Cal P w K mg base 1 d__law_part ["core"] F__law_part) (h__law_ring : Cal P w K mg base 1 d__law_ring ["word"] F__law_ring) (h__law_turns : Cal P w K mg base 2 d__law_turns ["rank", "core"] F__law_turns) (h__law_undone : Cal P w K mg base 1 d__law_undone ["word"] F__law_undone) (h_are_led : Cal P w K mg base 8 d_are_led ["rank", "word", "other"] F_are_led) (h_is_before : Cal P w K mg base 7 d_is_before ["rank", "word", "other"] F_is_before) (h_is_ring_word : Cal P w K mg base 7 d_is_ring_word ["rank", "word"] F_is_ring_word) (h_led : Cal P w K mg base 8 d_led ["rank", "word", "other"] F_led) (h_power : Cal P w K mg base 7 d_power ["rank", "word", "exponent"] F_power) (h_ring_core : Cal P w K mg base 7 d_ring_core ["rank", "word"] F_ring_core) (h_ring_turns : Cal P w K mg base 7 d_ring_turns ["rank", "word"] F_ring_turns) : Cal P w K mg base 9 d__law_one_right ["rank", "word"] F__law_one_right :=
  cal_of (N := ["rank", "word", "head", "core", "due", "exponent", "base", "late", "turns", "told", "at", "near", "far", "turn"]) (k := 8) (lk := []) B.n__law_one_right B.d__law_one_right rfl sc__law_one_right fun cdv A outer s H E r hg =>
    have SC := sc__law_one_right
    have tk := takes_of (X := cxOf (CX P w) P w K mg base ["rank", "word", "head", "core", "due", "exponent", "base", "late", "turns", "told", "at", "near", "far", "turn"] d__law_one_right.qual d__law_one_right.scope (He.fAd K d__law_one_right.at_) cdv A outer s H E) rfl rfl rfl rfl
    have ps := passes_of (X := cxOf (CX P w) P w K mg base ["rank", "word", "head", "core", "due", "exponent", "base", "late", "turns", "told", "at", "near", "far", "turn"] d__law_one_right.qual d__law_one_right.scope (He.fAd K d__law_one_right.at_) cdv A outer s H E) rfl
    (by exact (sds_cons (sd_asg (pm_pp (pp_fd (h__law_ring.mono (by decide)) rfl bn__law_ring r hg (aa_cons (pp_name 1) aa_nil) (hfl := (aCons_len aNil_len)))) (ge_tup rfl (ges_cons (ge_gp (vs := [2]) (gp_name 2 SC.nd)) (ges_cons (ge_gp (vs := [3]) (gp_name 3 SC.nd)) ges_nil)))) (sds_cons (sd_if (tm_tp (tp_cmp (o_ne (Room.u64 r)) (pp_callB (c_repr hg (Room.u110 r)) B.f_repr (aa_cons (pp_lst (aa_cons (pp_fd (h_ring_core.mono (by decide)) rfl bn_ring_core r hg (aa_cons (pp_name 0) (aa_cons (pp_name 1) aa_nil)) (hfl := (aCons_len (aCons_len aNil_len)))) (aa_cons (pp_fdK0 (h_ring_core.mono (by decide)) rfl bk_ring_core_0_word_rank (gv_perm _ _ _) (gr_perm _ _ _) r hg (kk_cons (pp_name 1) (kk_cons (pp_name 0) kk_nil))) aa_nil))) aa_nil)) (pp_callB (c_repr hg (Room.u110 r)) B.f_repr (aa_cons (pp_bin o_mul (pp_lst (aa_cons (pp_tup (aa_cons (pp_name 2) (aa_cons (pp_name 3) aa_nil))) aa_nil)) pp_int) aa_nil)))) (sds_one (sd_ret (pm_pp pp_bl))) sds_nil) (sds_cons (sd_if (tm_tp (WP.tp (wp_or (tp_cmp (o_ne (Room.u64 r)) (pp_bin o_add (pp_bin o_add (pp_name 2) (pp_name 3)) (pp_fd (h__law_undone.mono (by decide)) rfl bn__law_undone r hg (aa_cons (pp_name 2) aa_nil) (hfl := (aCons_len aNil_len)))) (pp_name 1)) (wp_or1 (tp_cmp (o_ne (Room.u64 r)) (pp_cmp (o_eq (Room.u64 r)) (pp_name 3) (pp_tup aa_nil)) (pp_cmp (o_eq (Room.u64 r)) (pp_name 1) (pp_tup aa_nil))))))) (sds_one (sd_ret (pm_pp pp_bl))) sds_nil) (sds_cons (sd_set 4 (pm_pp (pp_cmp (o_eq (Room.u64 r)) (pp_name 2) (pp_tup aa_nil))) SC.nd) (sds_cons (sd_if (tm_tp (tp_cmp (o_ne (Room.u64 r)) (pp_callB (c_repr hg (Room.u110 r)) B.f_repr (aa_cons (pp_lst (aa_cons (pp_fd (h_is_ring_word.mono (by decide)) rfl bn_is_ring_word r hg (aa_cons (pp_name 0) (aa_cons (pp_name 1) aa_nil)) (hfl := (aCons_len (aCons_len aNil_len)))) (aa_cons (pp_fdK0 (h_is_ring_word.mono (by decide)) rfl bk_is_ring_word_0_word_rank (gv_perm _ _ _) (gr_perm _ _ _) r hg (kk_cons (pp_name 1) (kk_cons (pp_name 0) kk_nil))) (aa_cons (pp_fd (h_is_ring_word.mono (by decide)) rfl bn_is_ring_word r hg (aa_cons (pp_name 0) (aa_cons (pp_name 3) aa_nil)) (hfl := (aCons_len (aCons_len aNil_len)))) aa_nil)))) aa_nil)) (pp_callB (c_repr hg (Room.u110 r)) B.f_repr (aa_cons (pp_lst (aa_cons (pp_name 4) (aa_cons (pp_name 4) (aa_cons pp_bl aa_nil)))) aa_nil)))) (sds_one (sd_ret (pm_pp pp_bl))) sds_nil) (sds_cons (sd_for (vs := [5]) ps rfl (ip_seq (pp_tup (aa_cons pp_int (aa_cons pp_int (aa_cons (pp_un o_neg pp_int) aa_nil))))) (gp_name 5 SC.nd) (sds_cons (sd_set 6 (pm_pp (pp_if (tp_cmp o_gt (pp_name 5) pp_int) (pp_name 3) (pp_fd (h__law_undone.mono (by decide)) rfl bn__law_undone r hg (aa_cons (pp_name 3) aa_nil) (hfl := (aCons_len aNil_len))))) SC.nd) (sds_cons (sd_set 7 (pm_pp (pp_if (tp_cmp (o_ne (Room.u64 r)) (pp_name 3) (pp_tup aa_nil)) (pp_bin o_add (pp_bin o_add (pp_name 2) (pp_bin o_mul (pp_name 6) (pp_callB c_abs B.f_abs (aa_cons (pp_name 5) aa_nil)))) (pp_fd (h__law_undone.mono (by decide)) rfl bn__law_undone r hg (aa_cons (pp_name 2) aa_nil) (hfl := (aCons_len aNil_len)))) (pp_tup aa_nil))) SC.nd) (sds_one (sd_if (tm_tp (WP.tp (wp_and (tp_cmp o_le (pp_callB c_len B.f_len (aa_cons (pp_name 7) aa_nil)) pp_int) (wp_and1 (tp_cmp (o_ne (Room.u64 r)) (pp_fd (h_power.mono (by decide)) rfl bn_power r hg (aa_cons (pp_name 0) (aa_cons (pp_name 1) (aa_cons (pp_name 5) aa_nil))) (hfl := (aCons_len (aCons_len (aCons_len aNil_len))))) (pp_name 7)))))) (sds_one (sd_ret (pm_pp pp_bl))) sds_nil))))) (sds_cons (sd_set 8 (pm_pp (pp_fd (h__law_turns.mono (by decide)) rfl bn__law_turns r hg (aa_cons (pp_name 0) (aa_cons (pp_name 3) aa_nil)) (hfl := (aCons_len (aCons_len aNil_len))))) SC.nd) (sds_cons (sd_setO 9 (pm_pp (pp_fd (h_ring_turns.mono (by decide)) rfl bn_ring_turns r hg (aa_cons (pp_name 0) (aa_cons (pp_name 1) aa_nil)) (hfl := (aCons_len (aCons_len aNil_len))))) SC.nd) (sds_cons (sd_if (tm_tp (tp_cmp (o_ne (Room.u64 r)) (pp_view 9 (pp_callB (c_repr hg (Room.u110 r)) B.f_repr (aa_cons (pp_lst (aa_cons (pp_name 9) (aa_cons (pp_fdK0 (h_ring_turns.mono (by decide)) rfl bk_ring_turns_0_word_rank (gv_perm _ _ _) (gr_perm _ _ _) r hg (kk_cons (pp_name 1) (kk_cons (pp_name 0) kk_nil))) aa_nil))) aa_nil))) (pp_callB (c_repr hg (Room.u110 r)) B.f_repr (aa_cons (pp_lst (aa_cons (pp_name 8) (aa_cons (pp_name 8) aa_nil))) aa_nil)))) (sds_one (sd_ret (pm_pp pp_bl))) sds_nil) (sds_cons (sd_expr (pm_mt 9 l_append F.slot_list_append rfl (pm_pp pp_non))) (sds_cons (sd_if (tm_tp (WP.tp (wp_or (tp_cmp (o_ne (Room.u64 r)) (pp_callB (c_repr hg (Room.u110 r)) B.f_repr (aa_cons (pp_fd (h_ring_turns.mono (by decide)) rfl bn_ring_turns r hg (aa_cons (pp_name 0) (aa_cons (pp_name 1) aa_nil)) (hfl := (aCons_len (aCons_len aNil_len)))) aa_nil)) (pp_callB (c_repr hg (Room.u110 r)) B.f_repr (aa_cons (pp_name 8) aa_nil))) (wp_or1 (tp_not (tp_val (pp_callB (c_all rfl) B.f_all (aa_cons (pp_lc rfl SC.nd (ip_zip B.f_zip (aa_cons (pp_name 8) (aa_cons (pp_slice (pp_name 8) (op_some pp_int) op_none) aa_nil))) (blkOk_by (own := [("near", 11), ("far", 12)]) (by first | rfl | with_unfolding_all rfl)) (fun _ _ _ _ _ => (gp_tup rfl (gps_cons (gp_name 11 SC.nd) (gps_cons (gp_name 12 SC.nd) gps_nil)))) (fun _ _ _ _ _ => tps_nil) (fun _ _ _ _ _ => (pp_fd (h_is_before.mono (by decide)) rfl bn_is_before r hg (aa_cons (pp_name 0) (aa_cons (pp_name 11) (aa_cons (pp_name 12) aa_nil))) (hfl := (aCons_len (aCons_len (aCons_len aNil_len))))))) aa_nil)))))))) (sds_one (sd_ret (pm_pp pp_bl))) sds_nil) (sds_cons (sd_for (vs := [10]) ps rfl (ip_range1 B.f_range (aa_cons (pp_callB c_len B.f_len (aa_cons (pp_name 3) aa_nil)) aa_nil)) (gp_name 10 SC.nd) (sds_one (sd_if (tm_tp (WP.tp (wp_or (tp_cmp (o_notIn (Room.u65 r)) (pp_fd (h_led.mono (by decide)) rfl bn_led r hg (aa_cons (pp_name 0) (aa_cons (pp_name 3) (aa_cons (pp_slice (pp_name 3) op_none (op_some (pp_name 10))) aa_nil))) (hfl := (aCons_len (aCons_len (aCons_len aNil_len))))) (pp_name 8)) (wp_or1 (tp_cmp (o_ne (Room.u64 r)) (pp_fd (h_led.mono (by decide)) rfl bn_led r hg (aa_cons (pp_name 0) (aa_cons (pp_name 3) (aa_cons (pp_slice (pp_name 3) op_none (op_some (pp_name 10))) aa_nil))) (hfl := (aCons_len (aCons_len (aCons_len aNil_len))))) (pp_bin o_add (pp_slice (pp_name 3) (op_some (pp_name 10)) op_none) (pp_slice (pp_name 3) op_none (op_some (pp_name 10))))))))) (sds_one (sd_ret (pm_pp pp_bl))) sds_nil))) (sds_cons (sd_if (tm_tp (WP.tp (wp_and (tp_cmp (o_ne (Room.u64 r)) (pp_name 3) (pp_tup aa_nil)) (wp_and1 (tp_cmp (o_ne (Room.u64 r)) (pp_callB c_len B.f_len (aa_cons (pp_name 3) aa_nil)) (pp_bin o_mul (pp_callB c_len B.f_len (aa_cons (pp_name 8) aa_nil)) (pp_if (tp_cmp o_gt (pp_callB c_len B.f_len (aa_cons (pp_name 3) aa_nil)) pp_int) (pp_bin o_fdiv (pp_callB c_len B.f_len (aa_cons (pp_name 3) aa_nil)) (pp_callB c_len B.f_len (aa_cons (pp_fd (h__law_part.mono (by decide)) rfl bn__law_part r hg (aa_cons (pp_name 3) aa_nil) (hfl := (aCons_len aNil_len))) aa_nil))) pp_int))))))) (sds_one (sd_ret (pm_pp pp_bl))) sds_nil) (sds_one (sd_ret (pm_pp (pp_callB (c_all rfl) B.f_all (aa_cons (pp_lc rfl SC.nd (ip_seq (pp_name 8)) (blkOk_by (own := [("turn", 13)]) (by first | rfl | with_unfolding_all rfl)) (fun _ _ _ _ _ => (gp_name 13 SC.nd)) (fun _ _ _ _ _ => tps_nil) (fun _ _ _ _ _ => (pp_fd (h_are_led.mono (by decide)) rfl bn_are_led r hg (aa_cons (pp_name 0) (aa_cons (pp_name 1) (aa_cons (pp_name 13) aa_nil))) (hfl := (aCons_len (aCons_len (aCons_len aNil_len))))))) aa_nil)))))))))))))))))))
theorem sc__law_right : FnScope ["pot", "rank", "short", "head", "words", "word"] ["pot"] d__law_right.scope := ⟨rfl, rfl, rfl, by decide +kernel, rfl, by decide +kernel, by decide +kernel⟩
theorem ok__law_right (B : Fx K mg) (h__law_draw : Cal P w K mg base 1 d__law_draw ["pot", "many"] F__law_draw) (h__law_one_right : Cal P w K mg base 9 d__law_one_right ["rank", "word"] F__law_one_right) (h__law_product : Cal P w K mg base 2 d__law_product ["words"] F__law_product) (h__law_undone : Cal P w K mg base 1 d__law_undone ["word"] F__law_undone) (h__law_word : Cal P w K mg base 3 d__law_word ["pot", "rank", "many"] F__law_word) (h_product : Cal P w K mg base 6 d_product ["rank", "words"] F_product) : Cal P w K mg base 10 d__law_right ["pot"] F__law_right :=
  cal_of (N := ["pot", "rank", "short", "head", "words", "word"]) (k := 9) (lk := [0]) B.n__law_right B.d__law_right rfl sc__law_right fun cdv A outer s H E r hg =>
    have SC := sc__law_right
    have tk := takes_of (X := cxOf (CX P w) P w K mg base ["pot", "rank", "short", "head", "words", "word"] d__law_right.qual d__law_right.scope (He.fAd K d__law_right.at_) cdv A outer s H E) rfl rfl rfl rfl
    have ps := passes_of (X := cxOf (CX P w) P w K mg base ["pot", "rank", "short", "head", "words", "word"] d__law_right.qual d__law_right.scope (He.fAd K d__law_right.at_) cdv A outer s H E) rfl
    (by exact (sds_cons (sd_set 1 (pm_bin o_add (pm_pp pp_int) (pm_fd (h__law_draw.mono (by decide)) rfl bn__law_draw r hg tk (ar_bw 0 (ar_fz (pm_pp pp_int) ar_nil)))) SC.nd) (sds_cons (sd_set 2 (pm_fd (h__law_word.mono (by decide)) rfl bn__law_word r hg tk (ar_bw 0 (ar_fz (pm_pp (pp_name 1)) (ar_fz (pm_bin o_add (pm_pp pp_int) (pm_fd (h__law_draw.mono (by decide)) rfl bn__law_draw r hg tk (ar_bw 0 (ar_fz (pm_pp pp_int) ar_nil)))) ar_nil)))) SC.nd) (sds_cons (sd_set 3 (pm_fd (h__law_word.mono (by decide)) rfl bn__law_word r hg tk (ar_bw 0 (ar_fz (pm_pp (pp_name 1)) (ar_fz (pm_fd (h__law_draw.mono (by decide)) rfl bn__law_draw r hg tk (ar_bw 0 (ar_fz (pm_pp pp_int) ar_nil))) ar_nil)))) SC.nd) (sds_cons (sd_set 4 (pm_lst (am_cons (pm_pp (pp_tup aa_nil)) (am_cons (pm_fd (h__law_word.mono (by decide)) rfl bn__law_word r hg tk (ar_bw 0 (ar_fz (pm_pp (pp_name 1)) (ar_fz (pm_fd (h__law_draw.mono (by decide)) rfl bn__law_draw r hg tk (ar_bw 0 (ar_fz (pm_pp pp_int) ar_nil))) ar_nil)))) (am_cons (pm_pp (pp_name 2)) (am_cons (pm_pp (pp_fd (h__law_product.mono (by decide)) rfl bn__law_product r hg (aa_cons (pp_lst (aa_cons (pp_name 3) (aa_cons (pp_name 2) (aa_cons (pp_fd (h__law_undone.mono (by decide)) rfl bn__law_undone r hg (aa_cons (pp_name 3) aa_nil) (hfl := (aCons_len aNil_len))) aa_nil)))) aa_nil) (hfl := (aCons_len aNil_len)))) am_nil))))) SC.nd) (sds_cons (sd_set 4 (pm_bin o_add (pm_pp (pp_name 4)) (pm_lst (am_cons (pm_fd (h__law_product.mono (by decide)) rfl bn__law_product r hg tk (ar_fz (pm_bin o_mul (pm_pp (pp_lst (aa_cons (pp_name 2) aa_nil))) (pm_bin o_add (pm_pp pp_int) (pm_fd (h__law_draw.mono (by decide)) rfl bn__law_draw r hg tk (ar_bw 0 (ar_fz (pm_pp pp_int) ar_nil))))) ar_nil)) (am_cons (pm_pp (pp_fd (h__law_product.mono (by decide)) rfl bn__law_product r hg (aa_cons (pp_bin o_add (pp_bin o_add (pp_lst (aa_cons (pp_name 3) aa_nil)) (pp_bin o_mul (pp_lst (aa_cons (pp_name 2) aa_nil)) pp_int)) (pp_lst (aa_cons (pp_fd (h__law_undone.mono (by decide)) rfl bn__law_undone r hg (aa_cons (pp_name 3) aa_nil) (hfl := (aCons_len aNil_len))) aa_nil))) aa_nil) (hfl := (aCons_len aNil_len)))) am_nil)))) SC.nd) (sds_cons (sd_if (tm_tp (tp_not (tp_val (pp_callB (c_all rfl) B.f_all (aa_cons (pp_lc rfl SC.nd (ip_seq (pp_name 4)) (blkOk_by (own := [("word", 5)]) (by first | rfl | with_unfolding_all rfl)) (fun _ _ _ _ _ => (gp_name 5 SC.nd)) (fun _ _ _ _ _ => tps_nil) (fun _ _ _ _ _ => (pp_fd (h__law_one_right.mono (by decide)) rfl bn__law_one_right r hg (aa_cons (pp_name 1) (aa_cons (pp_name 5) aa_nil)) (hfl := (aCons_len (aCons_len aNil_len)))))) aa_nil))))) (sds_one (sd_ret (pm_pp pp_bl))) sds_nil) (sds_one (sd_ret (pm_pp (pp_cmp (o_eq (Room.u64 r)) (pp_fd (h_product.mono (by decide)) rfl bn_product r hg (aa_cons (pp_name 1) (aa_cons (pp_bin o_mul (pp_lst (aa_cons (pp_ix (pp_name 4) pp_int) aa_nil)) pp_int) aa_nil)) (hfl := (aCons_len (aCons_len aNil_len)))) (pp_ix (pp_name 4) pp_int))))))))))))
theorem sc_law : FnScope ["script", "k"] ["script"] d_law.scope := ⟨rfl, rfl, rfl, by decide +kernel, rfl, by decide +kernel, by decide +kernel⟩
theorem ok_law (B : Fx K mg) (h__law_pot : Cal P w K mg base 1 d__law_pot ["script", "k"] F__law_pot) (h__law_right : Cal P w K mg base 10 d__law_right ["pot"] F__law_right) : Cal P w K mg base 11 d_law ["script"] F_law :=
  cal_of (N := ["script", "k"]) (k := 10) (lk := []) B.n_law B.d_law rfl sc_law fun cdv A outer s H E r hg =>
    have SC := sc_law
    have tk := takes_of (X := cxOf (CX P w) P w K mg base ["script", "k"] d_law.qual d_law.scope (He.fAd K d_law.at_) cdv A outer s H E) rfl rfl rfl rfl
    have ps := passes_of (X := cxOf (CX P w) P w K mg base ["script", "k"] d_law.qual d_law.scope (He.fAd K d_law.at_) cdv A outer s H E) rfl
    (by exact (sds_one (sd_ret (pm_callB (c_all rfl) B.f_all (am_cons (pm_lc rfl SC.nd (ip_range1 B.f_range (aa_cons (pp_callB (c_max2 rfl) B.f_max (aa_cons pp_int (aa_cons (pp_callB (c_min2 rfl) B.f_min (aa_cons pp_int (aa_cons (pp_callB c_len B.f_len (aa_cons (pp_name 0) aa_nil)) aa_nil))) aa_nil))) aa_nil)) (blkOk_by (own := [("k", 1)]) (by first | rfl | with_unfolding_all rfl)) (fun _ _ _ _ _ => (gp_name 1 SC.nd)) (fun _ _ _ _ _ => tps_nil) (fun _ _ _ _ _ => (pm_fd (h__law_right.mono (by decide)) rfl bn__law_right r hg takes_no (ar_ow (pm_pp (pp_fd (h__law_pot.mono (by decide)) rfl bn__law_pot r hg (aa_cons (pp_name 0) (aa_cons (pp_name 1) aa_nil)) (hfl := (aCons_len (aCons_len aNil_len))))) ar_nil)))) am_nil)))))
theorem al_is_integer (B : Fx K mg) : Cal P w K mg base 1 d_is_integer ["value"] F_is_integer := ok_is_integer B 
theorem al_is_list (B : Fx K mg) : Cal P w K mg base 1 d_is_list ["value"] F_is_list := ok_is_list B 
theorem al_want_at_most (B : Fx K mg) : Cal P w K mg base 1 d_want_at_most ["what", "limit", "number"] F_want_at_most := ok_want_at_most B 
theorem al_is_reduced (B : Fx K mg) : Cal P w K mg base 1 d_is_reduced ["row"] F_is_reduced := ok_is_reduced B 
theorem al_letter_place (B : Fx K mg) : Cal P w K mg base 1 d_letter_place ["letter"] F_letter_place := ok_letter_place B 
theorem al_reduced_of (B : Fx K mg) : Cal P w K mg base 1 d_reduced_of ["row"] F_reduced_of := ok_reduced_of B 
theorem al_undone_of (B : Fx K mg) : Cal P w K mg base 1 d_undone_of ["word"] F_undone_of := ok_undone_of B 
theorem al_is_ring (B : Fx K mg) : Cal P w K mg base 1 d_is_ring ["word"] F_is_ring := ok_is_ring B 
theorem al_ring_of (B : Fx K mg) : Cal P w K mg base 1 d_ring_of ["word"] F_ring_of := ok_ring_of B 
theorem al_turns_of (B : Fx K mg) : Cal P w K mg base 1 d_turns_of ["core"] F_turns_of := ok_turns_of B 
theorem al__law_pot (B : Fx K mg) : Cal P w K mg base 1 d__law_pot ["script", "k"] F__law_pot := ok__law_pot B 
theorem al__law_draw (B : Fx K mg) : Cal P w K mg base 1 d__law_draw ["pot", "many"] F__law_draw := ok__law_draw B 
theorem al__law_letters (B : Fx K mg) : Cal P w K mg base 1 d__law_letters ["rank"] F__law_letters := ok__law_letters B 
theorem al__law_reduced (B : Fx K mg) : Cal P w K mg base 1 d__law_reduced ["row"] F__law_reduced := ok__law_reduced B 
theorem al__law_undone (B : Fx K mg) : Cal P w K mg base 1 d__law_undone ["word"] F__law_undone := ok__law_undone B 
theorem al__law_ring (B : Fx K mg) : Cal P w K mg base 1 d__law_ring ["word"] F__law_ring := ok__law_ring B 
theorem al__law_part (B : Fx K mg) : Cal P w K mg base 1 d__law_part ["core"] F__law_part := ok__law_part B 
theorem al_is_letter (B : Fx K mg) : Cal P w K mg base 2 d_is_letter ["rank", "value"] F_is_letter := ok_is_letter B (al_is_integer B)
theorem al_want_rank (B : Fx K mg) : Cal P w K mg base 2 d_want_rank ["value"] F_want_rank := ok_want_rank B (al_is_integer B)
theorem al_want_told (B : Fx K mg) : Cal P w K mg base 2 d_want_told ["word"] F_want_told := ok_want_told B (al_want_at_most B)
theorem al_order_key (B : Fx K mg) : Cal P w K mg base 2 d_order_key ["word"] F_order_key := ok_order_key B (al_letter_place B)
theorem al_put_together (B : Fx K mg) : Cal P w K mg base 2 d_put_together ["words"] F_put_together := ok_put_together B (al_reduced_of B)
theorem al__law_pick (B : Fx K mg) : Cal P w K mg base 2 d__law_pick ["pot", "some"] F__law_pick := ok__law_pick B (al__law_draw B)
theorem al__law_product (B : Fx K mg) : Cal P w K mg base 2 d__law_product ["words"] F__law_product := ok__law_product B (al__law_reduced B)
theorem al__law_turns (B : Fx K mg) : Cal P w K mg base 2 d__law_turns ["rank", "core"] F__law_turns := ok__law_turns B (al__law_letters B)
theorem al_is_row (B : Fx K mg) : Cal P w K mg base 3 d_is_row ["rank", "value"] F_is_row := ok_is_row B (al_is_letter B)
theorem al_power_of (B : Fx K mg) : Cal P w K mg base 3 d_power_of ["word", "many"] F_power_of := ok_power_of B (al_put_together B) (al_undone_of B)
theorem al_led_of (B : Fx K mg) : Cal P w K mg base 3 d_led_of ["word", "leader"] F_led_of := ok_led_of B (al_put_together B) (al_undone_of B)
theorem al__law_word (B : Fx K mg) : Cal P w K mg base 3 d__law_word ["pot", "rank", "many"] F__law_word := ok__law_word B (al__law_letters B) (al__law_pick B)
theorem al_is_word (B : Fx K mg) : Cal P w K mg base 4 d_is_word ["rank", "value"] F_is_word := ok_is_word B (al_is_reduced B) (al_is_row B)
theorem al_leader_of (B : Fx K mg) : Cal P w K mg base 4 d_leader_of ["word", "other"] F_leader_of := ok_leader_of B (al_order_key B) (al_put_together B) (al_ring_of B) (al_turns_of B) (al_undone_of B)
theorem al_want_word (B : Fx K mg) : Cal P w K mg base 5 d_want_word ["rank", "value"] F_want_word := ok_want_word B (al_is_word B)
theorem al_want_words (B : Fx K mg) : Cal P w K mg base 5 d_want_words ["rank", "value"] F_want_words := ok_want_words B (al_is_list B) (al_is_word B)
theorem al_want_ranked (B : Fx K mg) : Cal P w K mg base 6 d_want_ranked ["rank", "word"] F_want_ranked := ok_want_ranked B (al_want_rank B) (al_want_word B)
theorem al_product (B : Fx K mg) : Cal P w K mg base 6 d_product ["rank", "words"] F_product := ok_product B (al_put_together B) (al_want_rank B) (al_want_told B) (al_want_words B)
theorem al_power (B : Fx K mg) : Cal P w K mg base 7 d_power ["rank", "word", "exponent"] F_power := ok_power B (al_is_integer B) (al_power_of B) (al_want_ranked B) (al_want_told B)
theorem al_is_before (B : Fx K mg) : Cal P w K mg base 7 d_is_before ["rank", "word", "other"] F_is_before := ok_is_before B (al_order_key B) (al_want_ranked B) (al_want_word B)
theorem al_want_two (B : Fx K mg) : Cal P w K mg base 7 d_want_two ["rank", "word", "other"] F_want_two := ok_want_two B (al_want_ranked B) (al_want_word B)
theorem al_is_ring_word (B : Fx K mg) : Cal P w K mg base 7 d_is_ring_word ["rank", "word"] F_is_ring_word := ok_is_ring_word B (al_is_ring B) (al_want_ranked B)
theorem al_ring_core (B : Fx K mg) : Cal P w K mg base 7 d_ring_core ["rank", "word"] F_ring_core := ok_ring_core B (al_ring_of B) (al_want_ranked B)
theorem al_ring_turns (B : Fx K mg) : Cal P w K mg base 7 d_ring_turns ["rank", "word"] F_ring_turns := ok_ring_turns B (al_order_key B) (al_ring_of B) (al_turns_of B) (al_want_ranked B)
theorem al_led (B : Fx K mg) : Cal P w K mg base 8 d_led ["rank", "word", "other"] F_led := ok_led B (al_led_of B) (al_want_told B) (al_want_two B)
theorem al_are_led (B : Fx K mg) : Cal P w K mg base 8 d_are_led ["rank", "word", "other"] F_are_led := ok_are_led B (al_leader_of B) (al_want_two B)
theorem al__law_one_right (B : Fx K mg) : Cal P w K mg base 9 d__law_one_right ["rank", "word"] F__law_one_right := ok__law_one_right B (al__law_part B) (al__law_ring B) (al__law_turns B) (al__law_undone B) (al_are_led B) (al_is_before B) (al_is_ring_word B) (al_led B) (al_power B) (al_ring_core B) (al_ring_turns B)
theorem al__law_right (B : Fx K mg) : Cal P w K mg base 10 d__law_right ["pot"] F__law_right := ok__law_right B (al__law_draw B) (al__law_one_right B) (al__law_product B) (al__law_undone B) (al__law_word B) (al_product B)
theorem al_law (B : Fx K mg) : Cal P w K mg base 11 d_law ["script"] F_law := ok_law B (al__law_pot B) (al__law_right B)
end
end G14

set_option maxHeartbeats 0
namespace G14
open PySem PySem.Spec PyProof.Rows L2 DL
def fnl_0 : List He.DefD := [d_is_integer, d_is_list, d_want_at_most, d_is_reduced, d_letter_place, d_reduced_of, d_undone_of, d_is_ring, d_ring_of, d_turns_of, d__law_pot, d__law_draw, d__law_letters, d__law_reduced, d__law_undone, d__law_ring, d__law_part, d_is_letter, d_want_rank, d_want_told]
def fnl_1 : List He.DefD := [d_order_key, d_put_together, d__law_pick, d__law_product, d__law_turns, d_is_row, d_power_of, d_led_of, d__law_word, d_is_word, d_leader_of, d_want_word, d_want_words, d_want_ranked, d_product, d_power, d_is_before, d_want_two, d_is_ring_word, d_ring_core]
def fnl_2 : List He.DefD := [d_ring_turns, d_led, d_are_led, d__law_one_right, d__law_right, d_law]
def fnl : List He.DefD := fnl_0 ++ fnl_1 ++ fnl_2
def fal_0 : List He.Fa := [.glo "is_integer", .glo "is_list", .glo "want_at_most", .glo "is_reduced", .glo "letter_place", .glo "reduced_of", .glo "undone_of", .glo "is_ring", .glo "ring_of", .glo "turns_of", .glo "_law_pot", .glo "_law_draw", .glo "_law_letters", .glo "_law_reduced", .glo "_law_undone", .glo "_law_ring", .glo "_law_part", .glo "is_letter", .glo "want_rank", .glo "want_told"]
def fal_1 : List He.Fa := [.glo "order_key", .glo "put_together", .glo "_law_pick", .glo "_law_product", .glo "_law_turns", .glo "is_row", .glo "power_of", .glo "led_of", .glo "_law_word", .glo "is_word", .glo "leader_of", .glo "want_word", .glo "want_words", .glo "want_ranked", .glo "product", .glo "power", .glo "is_before", .glo "want_two", .glo "is_ring_word", .glo "ring_core"]
def fal_2 : List He.Fa := [.glo "ring_turns", .glo "led", .glo "are_led", .glo "_law_one_right", .glo "_law_right", .glo "law", .free "abs", .free "all", .free "bool", .free "divmod", .free "enumerate", .free "int", .free "isinstance", .free "len", .free "list", .free "max", .free "min", .free "range", .free "repr", .free "sorted"]
def fal_3 : List He.Fa := [.free "tuple", .free "zip", .int "MOST_EXPONENT" 99, .int "MOST_RANK" 4, .int "MOST_ROW" 240, .int "MOST_WORD" 60, .int "MOST_WORDS" 40]
def fal : List He.Fa := fal_0 ++ fal_1 ++ fal_2 ++ fal_3
def loose_0 : List PySem.Str := ["HandfulError", "LimitError", "InvalidRank", "InvalidWord", "InvalidWords", "InvalidExponent", "TooMany", "is_integer", "is_list", "want_at_most", "MOST_RANK", "MOST_ROW", "MOST_WORD", "MOST_WORDS", "MOST_EXPONENT", "is_letter", "is_row", "is_reduced", "is_word", "want_rank"]
def loose_1 : List PySem.Str := ["want_word", "want_words", "want_ranked", "want_told", "letter_place", "order_key", "reduced_of", "undone_of", "put_together", "power_of", "product", "power", "is_before", "is_ring", "ring_of", "turns_of", "leader_of", "led_of", "want_two", "is_ring_word"]
def loose_2 : List PySem.Str := ["ring_core", "ring_turns", "led", "are_led", "_law_pot", "_law_draw", "_law_pick", "_law_mixed", "_law_letters", "_law_reduced", "_law_undone", "_law_product", "_law_row", "_law_word", "_law_ring", "_law_part", "_law_turns", "_law_one_right", "_law_right"]
def loose : List PySem.Str := loose_0 ++ loose_1 ++ loose_2
def chk (K : PySem.W.Frag) : Bool := true
abbrev R : PySem.W.OpenRow := PySem.W.OpenLaw.row PySem.Challenge.rw_wordhandfuls_k14_whole_rings_heads_and_t
abbrev hk : PySem.W.Hook := hookX 4 fal fnl chk
def ob (s : PySem.W.SharedT) : He.AlD × Bool := obX 4 fal fnl chk (HandSHeadRun.getT s)
theorem ob_eq (s : PySem.W.SharedT) : ob s = hk.obs s.abs := obX_eq (HandSHeadRun.getT_eq s)
theorem run (w : World) : HandSHeadRun.RunEq R (PySem.W.view R.prog [64]) hk ob 8000 loose w := by
  intro os
  kernel_rfl
theorem fx {K : PySem.W.Frag} {h : Heap} {mg : Str → Option Value} (X : K.In h) (G : h.Ns mainGlobals mg) (c : He.SaysD fal fnl K) (k : chk K = true) : Fx K mg := by
  unfold chk at k
  obtain _ := k
  exact {
    n_is_integer := He.glo_ok X G (c.fact 0 (f := .glo "is_integer") rfl)
    d_is_integer := c.def_ 0 (d := d_is_integer) rfl
    n_is_list := He.glo_ok X G (c.fact 1 (f := .glo "is_list") rfl)
    d_is_list := c.def_ 1 (d := d_is_list) rfl
    n_want_at_most := He.glo_ok X G (c.fact 2 (f := .glo "want_at_most") rfl)
    d_want_at_most := c.def_ 2 (d := d_want_at_most) rfl
    n_is_reduced := He.glo_ok X G (c.fact 3 (f := .glo "is_reduced") rfl)
    d_is_reduced := c.def_ 3 (d := d_is_reduced) rfl
    n_letter_place := He.glo_ok X G (c.fact 4 (f := .glo "letter_place") rfl)
    d_letter_place := c.def_ 4 (d := d_letter_place) rfl
    n_reduced_of := He.glo_ok X G (c.fact 5 (f := .glo "reduced_of") rfl)
    d_reduced_of := c.def_ 5 (d := d_reduced_of) rfl
    n_undone_of := He.glo_ok X G (c.fact 6 (f := .glo "undone_of") rfl)
    d_undone_of := c.def_ 6 (d := d_undone_of) rfl
    n_is_ring := He.glo_ok X G (c.fact 7 (f := .glo "is_ring") rfl)
    d_is_ring := c.def_ 7 (d := d_is_ring) rfl
    n_ring_of := He.glo_ok X G (c.fact 8 (f := .glo "ring_of") rfl)
    d_ring_of := c.def_ 8 (d := d_ring_of) rfl
    n_turns_of := He.glo_ok X G (c.fact 9 (f := .glo "turns_of") rfl)
    d_turns_of := c.def_ 9 (d := d_turns_of) rfl
    n__law_pot := He.glo_ok X G (c.fact 10 (f := .glo "_law_pot") rfl)
    d__law_pot := c.def_ 10 (d := d__law_pot) rfl
    n__law_draw := He.glo_ok X G (c.fact 11 (f := .glo "_law_draw") rfl)
    d__law_draw := c.def_ 11 (d := d__law_draw) rfl
    n__law_letters := He.glo_ok X G (c.fact 12 (f := .glo "_law_letters") rfl)
    d__law_letters := c.def_ 12 (d := d__law_letters) rfl
    n__law_reduced := He.glo_ok X G (c.fact 13 (f := .glo "_law_reduced") rfl)
    d__law_reduced := c.def_ 13 (d := d__law_reduced) rfl
    n__law_undone := He.glo_ok X G (c.fact 14 (f := .glo "_law_undone") rfl)
    d__law_undone := c.def_ 14 (d := d__law_undone) rfl
    n__law_ring := He.glo_ok X G (c.fact 15 (f := .glo "_law_ring") rfl)
    d__law_ring := c.def_ 15 (d := d__law_ring) rfl
    n__law_part := He.glo_ok X G (c.fact 16 (f := .glo "_law_part") rfl)
    d__law_part := c.def_ 16 (d := d__law_part) rfl
    n_is_letter := He.glo_ok X G (c.fact 17 (f := .glo "is_letter") rfl)
    d_is_letter := c.def_ 17 (d := d_is_letter) rfl
    n_want_rank := He.glo_ok X G (c.fact 18 (f := .glo "want_rank") rfl)
    d_want_rank := c.def_ 18 (d := d_want_rank) rfl
    n_want_told := He.glo_ok X G (c.fact 19 (f := .glo "want_told") rfl)
    d_want_told := c.def_ 19 (d := d_want_told) rfl
    n_order_key := He.glo_ok X G (c.fact 20 (f := .glo "order_key") rfl)
    d_order_key := c.def_ 20 (d := d_order_key) rfl
    n_put_together := He.glo_ok X G (c.fact 21 (f := .glo "put_together") rfl)
    d_put_together := c.def_ 21 (d := d_put_together) rfl
    n__law_pick := He.glo_ok X G (c.fact 22 (f := .glo "_law_pick") rfl)
    d__law_pick := c.def_ 22 (d := d__law_pick) rfl
    n__law_product := He.glo_ok X G (c.fact 23 (f := .glo "_law_product") rfl)
    d__law_product := c.def_ 23 (d := d__law_product) rfl
    n__law_turns := He.glo_ok X G (c.fact 24 (f := .glo "_law_turns") rfl)
    d__law_turns := c.def_ 24 (d := d__law_turns) rfl
    n_is_row := He.glo_ok X G (c.fact 25 (f := .glo "is_row") rfl)
    d_is_row := c.def_ 25 (d := d_is_row) rfl
    n_power_of := He.glo_ok X G (c.fact 26 (f := .glo "power_of") rfl)
    d_power_of := c.def_ 26 (d := d_power_of) rfl
    n_led_of := He.glo_ok X G (c.fact 27 (f := .glo "led_of") rfl)
    d_led_of := c.def_ 27 (d := d_led_of) rfl
    n__law_word := He.glo_ok X G (c.fact 28 (f := .glo "_law_word") rfl)
    d__law_word := c.def_ 28 (d := d__law_word) rfl
    n_is_word := He.glo_ok X G (c.fact 29 (f := .glo "is_word") rfl)
    d_is_word := c.def_ 29 (d := d_is_word) rfl
    n_leader_of := He.glo_ok X G (c.fact 30 (f := .glo "leader_of") rfl)
    d_leader_of := c.def_ 30 (d := d_leader_of) rfl
    n_want_word := He.glo_ok X G (c.fact 31 (f := .glo "want_word") rfl)
    d_want_word := c.def_ 31 (d := d_want_word) rfl
    n_want_words := He.glo_ok X G (c.fact 32 (f := .glo "want_words") rfl)
    d_want_words := c.def_ 32 (d := d_want_words) rfl
    n_want_ranked := He.glo_ok X G (c.fact 33 (f := .glo "want_ranked") rfl)
    d_want_ranked := c.def_ 33 (d := d_want_ranked) rfl
    n_product := He.glo_ok X G (c.fact 34 (f := .glo "product") rfl)
    d_product := c.def_ 34 (d := d_product) rfl
    n_power := He.glo_ok X G (c.fact 35 (f := .glo "power") rfl)
    d_power := c.def_ 35 (d := d_power) rfl
    n_is_before := He.glo_ok X G (c.fact 36 (f := .glo "is_before") rfl)
    d_is_before := c.def_ 36 (d := d_is_before) rfl
    n_want_two := He.glo_ok X G (c.fact 37 (f := .glo "want_two") rfl)
    d_want_two := c.def_ 37 (d := d_want_two) rfl
    n_is_ring_word := He.glo_ok X G (c.fact 38 (f := .glo "is_ring_word") rfl)
    d_is_ring_word := c.def_ 38 (d := d_is_ring_word) rfl
    n_ring_core := He.glo_ok X G (c.fact 39 (f := .glo "ring_core") rfl)
    d_ring_core := c.def_ 39 (d := d_ring_core) rfl
    n_ring_turns := He.glo_ok X G (c.fact 40 (f := .glo "ring_turns") rfl)
    d_ring_turns := c.def_ 40 (d := d_ring_turns) rfl
    n_led := He.glo_ok X G (c.fact 41 (f := .glo "led") rfl)
    d_led := c.def_ 41 (d := d_led) rfl
    n_are_led := He.glo_ok X G (c.fact 42 (f := .glo "are_led") rfl)
    d_are_led := c.def_ 42 (d := d_are_led) rfl
    n__law_one_right := He.glo_ok X G (c.fact 43 (f := .glo "_law_one_right") rfl)
    d__law_one_right := c.def_ 43 (d := d__law_one_right) rfl
    n__law_right := He.glo_ok X G (c.fact 44 (f := .glo "_law_right") rfl)
    d__law_right := c.def_ 44 (d := d__law_right) rfl
    n_law := He.glo_ok X G (c.fact 45 (f := .glo "law") rfl)
    d_law := c.def_ 45 (d := d_law) rfl
    f_abs := He.free_ok X G (c.fact 46 (f := .free "abs") rfl)
    f_all := He.free_ok X G (c.fact 47 (f := .free "all") rfl)
    f_bool := He.free_ok X G (c.fact 48 (f := .free "bool") rfl)
    f_divmod := He.free_ok X G (c.fact 49 (f := .free "divmod") rfl)
    f_enumerate := He.free_ok X G (c.fact 50 (f := .free "enumerate") rfl)
    f_int := He.free_ok X G (c.fact 51 (f := .free "int") rfl)
    f_isinstance := He.free_ok X G (c.fact 52 (f := .free "isinstance") rfl)
    f_len := He.free_ok X G (c.fact 53 (f := .free "len") rfl)
    f_list := He.free_ok X G (c.fact 54 (f := .free "list") rfl)
    f_max := He.free_ok X G (c.fact 55 (f := .free "max") rfl)
    f_min := He.free_ok X G (c.fact 56 (f := .free "min") rfl)
    f_range := He.free_ok X G (c.fact 57 (f := .free "range") rfl)
    f_repr := He.free_ok X G (c.fact 58 (f := .free "repr") rfl)
    f_sorted := He.free_ok X G (c.fact 59 (f := .free "sorted") rfl)
    f_tuple := He.free_ok X G (c.fact 60 (f := .free "tuple") rfl)
    f_zip := He.free_ok X G (c.fact 61 (f := .free "zip") rfl)
    c_MOST_EXPONENT := He.int_ok X G (c.fact 62 (f := .int "MOST_EXPONENT" 99) rfl)
    c_MOST_RANK := He.int_ok X G (c.fact 63 (f := .int "MOST_RANK" 4) rfl)
    c_MOST_ROW := He.int_ok X G (c.fact 64 (f := .int "MOST_ROW" 240) rfl)
    c_MOST_WORD := He.int_ok X G (c.fact 65 (f := .int "MOST_WORD" 60) rfl)
    c_MOST_WORDS := He.int_ok X G (c.fact 66 (f := .int "MOST_WORDS" 40) rfl)
  }
end G14
open PySem PySem.W PyProof.Rows
theorem G14.holds_of (tr : ∀ ns : List Int, ns.length ≤ 63 → ∃ e, G14.F_law [.d (.ro (DL.dints ns))] = .ok (.d (.bl true)) e) : PySem.Challenge.rw_wordhandfuls_k14_whole_rings_heads_and_t.Holds := by
  w_on; o_law
  refine HandSHeadRun.head_any (r := OpenLaw.row PySem.Challenge.rw_wordhandfuls_k14_whole_rings_heads_and_t) (q := view (OpenLaw.row PySem.Challenge.rw_wordhandfuls_k14_whole_rings_heads_and_t).prog [64]) (H := G14.hk) (ob := G14.ob) (M := 8000) (loose := G14.loose) (d := HandSHeadRun.topDef (OpenLaw.row PySem.Challenge.rw_wordhandfuls_k14_whole_rings_heads_and_t).prog 64) (kwd := []) G14.ob_eq
    (by kernel_rfl) (fun s => by kernel_rfl) G14.run (by kernel_rfl) (by kernel_rfl) (by kernel_rfl) (by rfl) (by first | assumption | decide +kernel) (by decide +kernel) ⟨rfl, rfl, rfl, rfl, rfl, by decide +kernel⟩ ?hw ?hc
  case hw => w_witness2
  case hc =>
    refine DL.walk_dl (l := PySem.Challenge.rw_wordhandfuls_k14_whole_rings_heads_and_t) (n := 63) (k := 11) (x := "script") (F := G14.F_law) rfl (by decide) (by kernel_rfl) ⟨rfl, by decide, by decide⟩ ?F tr
    intro w mg fa h Y G hmg0
    obtain ⟨K, KX, c, ck⟩ := Y
    have hmg : mg ("law" : PySem.Str) = some (.ref fa) := by
      have e : (HandSHeadRun.topDef (OpenLaw.row PySem.Challenge.rw_wordhandfuls_k14_whole_rings_heads_and_t).prog 64).name = ("law" : PySem.Str) := by kernel_rfl
      rw [← e]
      exact hmg0
    have B := G14.fx KX G c ck
    obtain ⟨fd, hb, hF⟩ := DL.fd_all (P := (PySem.Challenge.rw_wordhandfuls_k14_whole_rings_heads_and_t).prog) (w := w) (d := G14.d_law) (x := "script") (F := G14.F_law) hmg B.n_law G14.bn_law rfl B.d_law fun base => G14.al_law B
    exact ⟨K, fd, KX, hb, fun base _ _ => hF base⟩

set_option maxHeartbeats 4000000
namespace G14
open PySem PySem.Spec PyProof.Rows L2 DL
open FG (Red)
/-! # The plain law -/
theorem is_integer_int (i : Int) : F_is_integer [.d (.int i)] = .ok (.d (.bl true)) [some (.d (.int i))] := by rfl
theorem is_letter_int (r i : Int) : F_is_letter [.d (.int r), .d (.int i)] = .ok (.d (.bl (decide (1 ≤ (if i < 0 then -i else i)) && decide ((if i < 0 then -i else i) ≤ r)))) [some (.d (.int r)), some (.d (.int i))] := by
  by_cases h : 1 ≤ (if i < 0 then -i else i) <;> simp [F_is_letter, B_is_letter, is_integer_int, h]
theorem want_rank_ok (r : Int) (h1 : 1 ≤ r) (h2 : r ≤ 4) : F_want_rank [.d (.int r)] = .ok (.d .non) [some (.d (.int r))] := by
  simp [F_want_rank, B_want_rank, is_integer_int, h1, h2]
/-! ### draws -/
theorem gMul_int {i j : Int} (hi : i.natAbs < 2 ^ 64) (hj : j.natAbs < 2 ^ 64) : gMul (.int i) (.int j) = some (.fz (.int (i * j))) := by
  unfold gMul
  refine if_pos ?_
  have h1 : i.natAbs.log2 < 65 := by
    by_cases h : i.natAbs = 0
    · rw [h]; decide
    · exact Nat.lt_of_lt_of_le ((Nat.log2_lt h).mpr hi) (by decide)
  have h2 : j.natAbs.log2 < 65 := by
    by_cases h : j.natAbs = 0
    · rw [h]; decide
    · exact Nat.lt_of_lt_of_le ((Nat.log2_lt h).mpr hj) (by decide)
  omega
/-- one draw: the digit, the pot behind it -/
def drawn (a b n : Int) : Int × Int × Int := if 0 < a then (a % n, a / n, b) else ((((b * 39373 + 1303) % 2147483587 * ((b * 39373 + 1303) % 2147483587)) % 2147483563 / 19) % n, a, (b * 39373 + 1303) % 2147483587)
theorem draw_run (a b n : Int) (ha : 0 ≤ a) (hb : 0 ≤ b) (hb2 : b < 2147483648) (hn : 0 < n) (hn2 : n < 1000) :
    F__law_draw [.lst [.int a, .int b], .d (.int n)] = .ok (.d (.int (drawn a b n).1)) [some (.lst [.int (drawn a b n).2.1, .int (drawn a b n).2.2]), some (.d (.int n))] := by
  have hn3 : n < 1073741824 := by omega
  have l19 : Nat.log2 19 < 9000 := by decide +kernel
  by_cases h : 0 < a
  · simp [F__law_draw, B__law_draw, drawn, h, atI, ixN, hn, hn3]
  · have m1 : gMul (.int b) (.int 39373) = some (.fz (.int (b * 39373))) := gMul_int (by omega) (by decide)
    have c0 : 0 ≤ (b * 39373 + 1303) % 2147483587 := Int.emod_nonneg _ (by decide)
    have c1 : (b * 39373 + 1303) % 2147483587 < 2147483587 := Int.emod_lt_of_pos _ (by decide)
    have m2' := gMul_int (i := (b * 39373 + 1303) % 2147483587) (j := (b * 39373 + 1303) % 2147483587) (by omega) (by omega)
    simp [F__law_draw, B__law_draw, drawn, h, atI, ixN, hn, hn3, m1, m2', l19]
/-- what a pot is -/
def Pot (p : List D) : Prop := ∃ a b : Int, p = [.int a, .int b] ∧ 0 ≤ a ∧ 0 ≤ b ∧ b < 2147483648
theorem draw_ok {p : List D} (h : Pot p) (n : Int) (hn : 0 < n) (hn2 : n < 1000) : ∃ (k : Int) (p' : List D), Pot p' ∧ 0 ≤ k ∧ k < n ∧ F__law_draw [.lst p, .d (.int n)] = .ok (.d (.int k)) [some (.lst p'), some (.d (.int n))] := by
  obtain ⟨a, b, rfl, ha, hb, hb2⟩ := h
  refine ⟨_, _, ⟨_, _, rfl, ?_, ?_, ?_⟩, ?_, ?_, draw_run a b n ha hb hb2 hn hn2⟩
  · unfold drawn
    split
    · exact Int.ediv_nonneg ha (by omega)
    · exact ha
  · unfold drawn
    split
    · exact hb
    · exact Int.emod_nonneg _ (by decide)
  · unfold drawn
    split
    · exact hb2
    · exact Int.lt_trans (Int.emod_lt_of_pos _ (by decide)) (by decide)
  · unfold drawn
    split
    · exact Int.emod_nonneg _ (by omega)
    · exact Int.emod_nonneg _ (by omega)
  · unfold drawn
    split
    · exact Int.emod_lt_of_pos _ hn
    · exact Int.emod_lt_of_pos _ hn
theorem pick_ok {p : List D} (h : Pot p) (xs : List D) (h0 : 0 < xs.length) (h1 : xs.length < 1000) : ∃ (x : D) (p' : List D), Pot p' ∧ x ∈ xs ∧ F__law_pick [.lst p, .d (.lst xs)] = .ok (.d x) [some (.lst p'), some (.d (.lst xs))] := by
  obtain ⟨k, p', hp, k0, k1, e⟩ := draw_ok h (xs.length : Int) (by omega) (by omega)
  have hk : k.toNat < xs.length := by omega
  have at_ : atI xs k = some xs[k.toNat] := by
    unfold atI ixN
    rw [if_pos k0, if_pos k1]
    simp [hk]
  refine ⟨xs[k.toNat], p', hp, List.getElem_mem hk, ?_⟩
  simp [F__law_pick, B__law_pick, e, at_]
theorem letters_1 : F__law_letters [.d (.int 1)] = .ok (.lst [.int 1, .int (-1)]) [some (.d (.int 1))] := by rfl
theorem letters_2 : F__law_letters [.d (.int 2)] = .ok (.lst [.int 1, .int (-1), .int 2, .int (-2)]) [some (.d (.int 2))] := by rfl
theorem letters_3 : F__law_letters [.d (.int 3)] = .ok (.lst [.int 1, .int (-1), .int 2, .int (-2), .int 3, .int (-3)]) [some (.d (.int 3))] := by rfl
theorem letters_4 : F__law_letters [.d (.int 4)] = .ok (.lst [.int 1, .int (-1), .int 2, .int (-2), .int 3, .int (-3), .int 4, .int (-4)]) [some (.d (.int 4))] := by rfl
/-! ### words -/
/-- a letter of rank r -/
def Let (r i : Int) : Prop := i ≠ 0 ∧ -r ≤ i ∧ i ≤ r
def lets (r : Int) : List Int := if r = 1 then [1, -1] else if r = 2 then [1, -1, 2, -2] else if r = 3 then [1, -1, 2, -2, 3, -3] else [1, -1, 2, -2, 3, -3, 4, -4]
theorem letters_ok {r : Int} (h1 : 1 ≤ r) (h2 : r ≤ 4) : F__law_letters [.d (.int r)] = .ok (.lst (dints (lets r))) [some (.d (.int r))] := by
  have : r = 1 ∨ r = 2 ∨ r = 3 ∨ r = 4 := by omega
  rcases this with rfl | rfl | rfl | rfl
  · exact letters_1
  · exact letters_2
  · exact letters_3
  · exact letters_4
theorem lets_let {r : Int} (h1 : 1 ≤ r) (h2 : r ≤ 4) : ∀ i ∈ lets r, Let r i := by
  have : r = 1 ∨ r = 2 ∨ r = 3 ∨ r = 4 := by omega
  rcases this with rfl | rfl | rfl | rfl <;> (intro i hi; simp [lets] at hi; unfold Let; omega)
theorem lets_two {r : Int} (h1 : 1 ≤ r) (h2 : r ≤ 4) : 1 ∈ lets r ∧ -1 ∈ lets r := by
  have : r = 1 ∨ r = 2 ∨ r = 3 ∨ r = 4 := by omega
  rcases this with rfl | rfl | rfl | rfl <;> simp [lets]
theorem lets_len (r : Int) : (lets r).length ≤ 8 := by
  unfold lets
  split
  · decide
  · split
    · decide
    · split <;> decide
theorem red_snoc : ∀ {w : List Int} {a b : Int}, Red (w ++ [a]) → a + b ≠ 0 → Red (w ++ [a, b])
  | [], a, b, _, h => ⟨h, trivial⟩
  | [c], a, b, h, h2 => ⟨h.1, h2, trivial⟩
  | c :: d :: w, a, b, h, h2 => ⟨h.1, red_snoc (w := d :: w) h.2 h2⟩
def lastI (w : List Int) : Int := w.getLastD 0
/-- the state of _law_word's loop -/
def wSt (p : List D) (r m : Int) (w : List Int) (t s : Option S) : En := [some (.lst p), some (.d (.int r)), some (.d (.int m)), some (.d (.tup (dints w))), t, s, none]
def wSome (r : Int) (w : List Int) : List Int := (lets r).filter fun i => decide (w = []) || !decide (i = 0 - lastI w)
def B_wfil : FP := pLc [6] (iSeq (pFd F__law_letters (aCons (pName 1) aNil))) (gNm 6) (tOr (tVal (p2 gEq (pName 3) (pTup aNil))) (tVal (p2 gNe (pName 6) (p2 gSub (pCon (.int 0)) (p2 gIx (pName 3) (p1 gNeg (pCon (.int 1)))))))) (pName 6)
theorem atI_neg1 {α : Type} (xs : List α) (h : xs ≠ []) : atI xs (-1) = xs.getLast? := by
  unfold atI ixN
  have hl : 0 < xs.length := List.length_pos_iff.mpr h
  rw [if_neg (by decide), if_pos (by omega)]
  rw [List.getLast?_eq_getElem?]
  show xs[((-1 : Int) + (xs.length : Int)).toNat]? = _
  congr 1
  omega
theorem natAbs_let {r i : Int} (h2 : r ≤ 4) (h : Let r i) : i.natAbs < 2 ^ 64 := by
  obtain ⟨_, a, b⟩ := h
  omega
theorem getLastD_mem {w : List Int} (z : w ≠ []) : lastI w ∈ w := by
  unfold lastI
  cases w with
  | nil => exact absurd rfl z
  | cons a w => rw [List.getLastD_cons, ← List.getLast_eq_getLastD]; exact List.getLast_mem (by simp)
theorem last_dints {w : List Int} (z : w ≠ []) : atI (dints w) (-1) = some (.int (lastI w)) := by
  unfold lastI
  rw [show dints w = w.map .int from rfl, atI_map, atI_neg1 w z, List.getLast?_eq_some_getLast z]
  cases w with
  | nil => exact absurd rfl z
  | cons a w => simp [List.getLastD_cons, List.getLast_eq_getLastD, List.getLast?_cons]
abbrev tWf : FT := DL.tOr (tVal (p2 gEq (pName 3) (pTup aNil))) (tVal (p2 gNe (pName 6) (p2 DL.gSub (pCon (.int 0)) (p2 gIx (pName 3) (p1 gNeg (pCon (.int 1)))))))
theorem tWf_ok {e : En} {r i : Int} {w : List Int} (h2 : r ≤ 4) (hw : ∀ i ∈ w, Let r i) (hi : Let r i) (h3 : e[3]? = some (some (.d (.tup (dints w))))) (h6 : e[6]? = some (some (.d (.int i)))) : tWf e = some (decide (w = []) || !decide (i = 0 - lastI w)) := by
  have nw : (D.tup (dints w)).nice = true := nice_dints fun j hj => natAbs_let h2 (hw j hj)
  have dw : (D.tup (dints w)).dep ≤ 64 := by show depL (dints w) + 1 ≤ 64; rw [dep_dints]; decide
  have e1 : gEq (.tup (dints w)) (.tup []) = some (.fz (.bl (decide (w = [])))) := by
    rw [gEq_nice nw rfl dw (by decide)]
    have := eqb_tupI w []
    rw [dints_nil] at this
    rw [this]
  by_cases z : w = []
  · have e1' : gEq (.tup (dints w)) (.tup []) = some (.fz (.bl true)) := by rw [e1, decide_eq_true z]
    subst z
    simp at e1'
    simp [tWf, h3, e1']
  · have e1' : gEq (.tup (dints w)) (.tup []) = some (.fz (.bl false)) := by rw [e1, decide_eq_false z]
    have hL := hw _ (getLastD_mem z)
    have e2 : gNe (.int i) (.int (0 - lastI w)) = some (.fz (.bl (!decide (i = 0 - lastI w)))) := by
      rw [gNe_nice (nice_int (natAbs_let h2 hi)) (nice_int (by have := natAbs_let h2 hL; omega)) (Nat.zero_le _) (Nat.zero_le _), eqb_int]
    rw [Int.zero_sub] at e2 ⊢
    simp [tWf, h3, h6, e1', z, last_dints z, e2]
theorem wfil_list {e : En} {r : Int} {w : List Int} (h2 : r ≤ 4) (hw : ∀ i ∈ w, Let r i) (h3 : e[3]? = some (some (.d (.tup (dints w))))) (hl : e.length = 7) : ∀ v : List Int, (∀ i ∈ v, Let r i) →
    lcL (gNm 6) tWf (pName 6) e (dints v) = some (dints (v.filter fun i => decide (w = []) || !decide (i = 0 - lastI w)))
  | [], _ => rfl
  | i :: v, hv => by
    have ih := wfil_list h2 hw h3 hl v fun j hj => hv j (List.mem_cons_of_mem _ hj)
    have t := tWf_ok (e := e.set 6 (some (.d (.int i)))) h2 hw (hv i List.mem_cons_self) (by rw [List.getElem?_set_ne (by decide)]; exact h3) (by rw [List.getElem?_set_self (by omega)])
    rw [dints_cons]
    unfold lcL
    rw [show gNm 6 (.int i) e = some (e.set 6 (some (.d (.int i)))) from if_pos (by omega), Option.bind_some, t, Option.bind_some, ih]
    rw [List.filter_cons]
    cases decide (w = []) || !decide (i = 0 - lastI w) with
    | true => simp [hl]
    | false => rfl
theorem filt_ok {p : List D} {r m : Int} {w : List Int} {t s : Option S} (h1 : 1 ≤ r) (h2 : r ≤ 4) (hw : ∀ i ∈ w, Let r i) : pLc [6] (iSeq (pFd F__law_letters (aCons (pName 1) aNil))) (gNm 6) tWf (pName 6) (wSt p r m w t s) = some (.fr (dints (wSome r w))) := by
  have a : iSeq (pFd F__law_letters (aCons (pName 1) aNil)) (wSt p r m w t s) = some (dints (lets r), true) := by simp [wSt, letters_ok h1 h2]
  have b := wfil_list (e := wSt p r m w t s) h2 hw rfl rfl (lets r) (lets_let h1 h2)
  have hl : (dints (wSome r w)).length ≤ SZ := by
    rw [dints_length]
    exact Nat.le_trans (List.length_filter_le _ _) (Nat.le_trans (lets_len r) (by decide))
  unfold pLc
  rw [a, Option.bind_some]
  show (lcL (gNm 6) tWf (pName 6) (wSt p r m w t s) (dints (lets r))).bind _ = _
  rw [b, Option.bind_some]
  exact if_pos hl
theorem wSome_pos {r : Int} {w : List Int} (h1 : 1 ≤ r) (h2 : r ≤ 4) : 0 < (wSome r w).length := by
  obtain ⟨a, b⟩ := lets_two h1 h2
  unfold wSome
  by_cases z : lastI w = -1
  · refine List.length_pos_iff.mpr (List.ne_nil_of_mem (a := -1) (List.mem_filter.mpr ⟨b, ?_⟩))
    rw [z]
    simp
  · refine List.length_pos_iff.mpr (List.ne_nil_of_mem (a := 1) (List.mem_filter.mpr ⟨a, ?_⟩))
    simp
    right
    omega
theorem red_add {w : List Int} {i : Int} (h : Red w) (hi : w = [] ∨ i ≠ 0 - lastI w) : Red (w ++ [i]) := by
  rcases hi with rfl | hi
  · trivial
  · rcases List.eq_nil_or_concat w with rfl | ⟨w, a, rfl⟩
    · trivial
    · rw [List.concat_eq_append] at h hi ⊢
      rw [List.append_assoc]
      refine red_snoc h ?_
      have : lastI (w ++ [a]) = a := by unfold lastI; simp
      rw [this] at hi
      omega
/-- a word of rank r -/
def GW (r : Int) (w : List Int) : Prop := Red w ∧ ∀ i ∈ w, Let r i
abbrev B_wbody : FS := sSeq (sSet 5 (mPP (pLc [6] (iSeq (pFd F__law_letters (aCons (pName 1) aNil))) (gNm 6) tWf (pName 6)))) (sSet 3 (m2 gAdd (mPP (pName 3)) (mTup (lCons (mFd 2 F__law_pick (arBw 0 (arFz (mPP (pName 5)) arNil))) lNil))))
theorem wstep {p : List D} {r m : Int} {w : List Int} {t s : Option S} (hp : Pot p) (h1 : 1 ≤ r) (h2 : r ≤ 4) (hw : GW r w) (hl : w.length ≤ 100) :
    ∃ (p' : List D) (i : Int) (s' : Option S), Pot p' ∧ GW r (w ++ [i]) ∧ B_wbody (wSt p r m w t s) = .nx (wSt p' r m (w ++ [i]) t s') := by
  have hf := filt_ok (p := p) (m := m) (t := t) (s := s) h1 h2 hw.2
  have hlen : (wSome r w).length < 1000 := Nat.lt_of_le_of_lt (List.length_filter_le _ _) (Nat.lt_of_le_of_lt (lets_len r) (by decide))
  obtain ⟨x, p', hp', hx, e⟩ := pick_ok hp (dints (wSome r w)) (by rw [dints_length]; exact wSome_pos h1 h2) (by rw [dints_length]; exact hlen)
  obtain ⟨i, hi, rfl⟩ := List.mem_map.mp hx
  obtain ⟨hi1, hi2⟩ := List.mem_filter.mp hi
  refine ⟨p', i, some (.d (.lst (dints (wSome r w)))), hp', ⟨red_add hw.1 ?_, fun j hj => ?_⟩, ?_⟩
  · simp at hi2
    rcases hi2 with z | z
    · exact .inl z
    · exact .inr (by omega)
  · rcases List.mem_append.mp hj with q | q
    · exact hw.2 j q
    · rw [List.mem_singleton.mp q]; exact lets_let h1 h2 i hi1
  · have hz : w.length + 1 ≤ SZ := by unfold SZ; omega
    have h1z : 1 ≤ SZ := by decide
    simp only [B_wbody, sSeq, sSet, mPP, hf]
    simp [wSt, e, dints_append, hz, h1z]
theorem wloop {r m : Int} (h1 : 1 ≤ r) (h2 : r ≤ 4) : ∀ (ds : List D) {p : List D} {w : List Int} {t s : Option S}, Pot p → GW r w → w.length + ds.length ≤ 100 →
    ∃ (p' : List D) (w' : List Int) (t' s' : Option S), Pot p' ∧ GW r w' ∧ w'.length = w.length + ds.length ∧ forL (gNm 4) B_wbody ds (wSt p r m w t s) = .nx (wSt p' r m w' t' s')
  | [], p, w, t, s, hp, hw, _ => ⟨p, w, t, s, hp, hw, rfl, rfl⟩
  | d :: ds, p, w, t, s, hp, hw, hl => by
    rw [List.length_cons] at hl
    obtain ⟨p1, i, s1, hp1, hw1, e1⟩ := wstep (m := m) (t := some (.d d)) (s := s) hp h1 h2 hw (by omega)
    obtain ⟨p2, w2, t2, s2, hp2, hw2, l2, e2⟩ := wloop h1 h2 ds (t := some (.d d)) (s := s1) hp1 hw1 (by rw [List.length_append, List.length_singleton]; omega)
    refine ⟨p2, w2, t2, s2, hp2, hw2, ?_, ?_⟩
    · rw [l2, List.length_append, List.length_singleton, List.length_cons]
      omega
    · unfold forL
      rw [show gNm 4 d (wSt p r m w t s) = some (wSt p r m w (some (.d d)) s) from rfl]
      simp only [e1]
      exact e2
theorem word_ok {p : List D} {r m : Int} (hp : Pot p) (h1 : 1 ≤ r) (h2 : r ≤ 4) (m0 : 0 ≤ m) (m1 : m ≤ 60) :
    ∃ (p' : List D) (w : List Int), Pot p' ∧ GW r w ∧ (w.length : Int) = m ∧ F__law_word [.lst p, .d (.int r), .d (.int m)] = .ok (.d (.tup (dints w))) [some (.lst p'), some (.d (.int r)), some (.d (.int m))] := by
  have hrl : (rangeD 0 m.toNat).length = m.toNat := by unfold rangeD; rw [List.length_map, List.length_range]
  obtain ⟨p', w, t, s, hp', hw, hl, e⟩ := wloop (m := m) h1 h2 (rangeD 0 m.toNat) (p := p) (w := []) (t := none) (s := none) hp ⟨trivial, fun _ h => nomatch h⟩ (by rw [hrl]; simp; omega)
  refine ⟨p', w, hp', hw, by rw [hl, hrl]; simp; omega, ?_⟩
  have i62m : i62 m = true := by unfold i62; rw [decide_eq_true (by omega), decide_eq_true (by omega)]; rfl
  have q1 : sSet 3 (mPP (pTup aNil)) (enter 7 [.lst p, .d (.int r), .d (.int m)]) = .nx (wSt p r m [] none none) := rfl
  have q2 : sFor (iRg1 (aCons (pName 2) aNil)) (gNm 4) B_wbody (wSt p r m [] none none) = .nx (wSt p' r m w t s) := by
    unfold sFor
    rw [show iRg1 (aCons (pName 2) aNil) (wSt p r m [] none none) = some (rangeD 0 m.toNat, true) from by simp [wSt, i62m]]
    exact e
  have q3 : B__law_word (enter 7 [.lst p, .d (.int r), .d (.int m)]) = .rt (.d (.tup (dints w))) (wSt p' r m w t s) := by
    unfold B__law_word
    show ((sSet 3 (mPP (pTup aNil)) (enter 7 [.lst p, .d (.int r), .d (.int m)])).seq fun e => (sFor (iRg1 (aCons (pName 2) aNil)) (gNm 4) B_wbody e).seq (sRet (mPP (pName 3)))) = _
    rw [q1]
    show (sFor (iRg1 (aCons (pName 2) aNil)) (gNm 4) B_wbody (wSt p r m [] none none)).seq (sRet (mPP (pName 3))) = _
    rw [q2]
    rfl
  unfold F__law_word fnF
  rw [q3]
  rfl

theorem let_cases {i : Int} (h : Let 4 i) : i = 1 ∨ i = 2 ∨ i = 3 ∨ i = 4 ∨ i = -1 ∨ i = -2 ∨ i = -3 ∨ i = -4 := by
  unfold Let at h
  omega
theorem let_up {r i : Int} (h2 : r ≤ 4) (h : Let r i) : Let 4 i := by unfold Let at *; omega
theorem gEq_empty (w : List Int) (h : ∀ i ∈ w, Let 4 i) : gEq (.tup (dints w)) (.tup []) = some (.fz (.bl (decide (w = [])))) := by
  have nw : (D.tup (dints w)).nice = true := nice_dints fun j hj => natAbs_let (Int.le_refl 4) (h j hj)
  have dw : (D.tup (dints w)).dep ≤ 64 := by show depL (dints w) + 1 ≤ 64; rw [dep_dints]; decide
  rw [gEq_nice nw rfl dw (by decide)]
  have := eqb_tupI w []
  rw [dints_nil] at this
  rw [this]
/-! ### is_word -/
def letB (r i : Int) : Bool := decide (1 ≤ (if i < 0 then -i else i)) && decide ((if i < 0 then -i else i) ≤ r)
theorem letB_iff {r i : Int} : letB r i = true ↔ Let r i := by
  unfold letB Let
  rw [Bool.and_eq_true, decide_eq_true_iff, decide_eq_true_iff]
  split <;> omega
def bl (b : Bool) : D := .bl b
theorem bls_bl : ∀ bs : List Bool, bls? (bs.map bl) = some bs
  | [] => rfl
  | b :: bs => by
    show (bls? (bs.map bl)).map (b :: ·) = _
    rw [bls_bl bs]
    rfl
theorem gAll_bl (bs : List Bool) : gAll [.lst (bs.map bl)] = some (.fz (.bl (bs.all id))) := by
  show (bls? (bs.map bl)).map _ = _
  rw [bls_bl]
  rfl
abbrev P_il : FP := pFd F_is_letter (aCons (pName 0) (aCons (pName 2) aNil))
theorem il_list (r : Int) (x y : Option S) : ∀ w : List Int, lcL (gNm 2) tAll P_il [some (.d (.int r)), x, y] (dints w) = some ((w.map (letB r)).map bl)
  | [] => rfl
  | i :: w => by
    rw [dints_cons]
    unfold lcL
    rw [show gNm 2 (.int i) [some (.d (.int r)), x, y] = some [some (.d (.int r)), x, some (.d (.int i))] from rfl, Option.bind_some]
    show ((P_il [some (.d (.int r)), x, some (.d (.int i))]).bind fun r' => r'.item.bind fun z => (lcL (gNm 2) tAll P_il [some (.d (.int r)), x, y] (dints w)).map fun xs => z :: xs) = _
    have e : P_il [some (.d (.int r)), x, some (.d (.int i))] = some (.fz (bl (letB r i))) := by
      show callP F_is_letter [.fz (.int r), .fz (.int i)] = _
      unfold callP
      show (match F_is_letter [.d (.int r), .d (.int i)] with | .ok s _ => _ | _ => none) = _
      rw [is_letter_int]
      rfl
    rw [e, il_list r x y w]
    rfl
theorem is_row_ok (r : Int) (w : List Int) (hl : w.length ≤ 200) : F_is_row [.d (.int r), .d (.tup (dints w))] = .ok (.d (.bl (w.all (letB r)))) [some (.d (.int r)), some (.d (.tup (dints w)))] := by
  have e2 : pLc [2] (iSeq (pName 1)) (gNm 2) tAll P_il [some (.d (.int r)), some (.d (.tup (dints w))), none] = some (.fr ((w.map (letB r)).map bl)) := by
    unfold pLc
    rw [show iSeq (pName 1) [some (.d (.int r)), some (.d (.tup (dints w))), none] = some (dints w, true) from rfl, Option.bind_some]
    show (lcL (gNm 2) tAll P_il [some (.d (.int r)), some (.d (.tup (dints w))), none] (dints w)).bind _ = _
    rw [il_list, Option.bind_some]
    refine if_pos ?_
    rw [List.length_map, List.length_map]
    unfold SZ
    omega
  have e3 : pCa gAll (aCons (pLc [2] (iSeq (pName 1)) (gNm 2) tAll P_il) aNil) [some (.d (.int r)), some (.d (.tup (dints w))), none] = some (.fz (.bl (w.all (letB r)))) := by
    unfold pCa aCons
    rw [e2]
    show gAll [.lst ((w.map (letB r)).map bl)] = _
    rw [gAll_bl, List.all_map]
    rfl
  have e4 : p2 gLe (pCa gLen (aCons (pName 1) aNil)) (pCon (.int 240)) [some (.d (.int r)), some (.d (.tup (dints w))), none] = some (.fz (.bl true)) := by
    show some (RV.fz (.bl (decide (((dints w).length : Int) ≤ 240)))) = _
    rw [decide_eq_true (by rw [dints_length]; omega)]
  have e5 : B_is_row [some (.d (.int r)), some (.d (.tup (dints w))), none] = .rt (.d (.bl (w.all (letB r)))) [some (.d (.int r)), some (.d (.tup (dints w))), none] :=
    ret_fz ((pAnd_t rfl).trans ((pAnd_t e4).trans e3))
  unfold F_is_row fnF
  rw [show enter 3 [.d (.int r), .d (.tup (dints w))] = [some (.d (.int r)), some (.d (.tup (dints w))), none] from rfl, e5]
  rfl
def redB : List Int → Bool
  | [] => true
  | [_] => true
  | a :: b :: w => !decide (a + b = 0) && redB (b :: w)
theorem redB_iff : ∀ {w : List Int}, redB w = true ↔ Red w
  | [] => by simp [redB, Red]
  | [_] => by simp [redB, Red]
  | a :: b :: w => by simp [redB, Red, redB_iff (w := b :: w)]
def pairsB : List Int → List Bool
  | [] => []
  | [_] => []
  | a :: b :: w => (!decide (a + b = 0)) :: pairsB (b :: w)
theorem pairsB_all : ∀ w : List Int, (pairsB w).all id = redB w
  | [] => rfl
  | [_] => rfl
  | a :: b :: w => by show ((!decide (a + b = 0)) && (pairsB (b :: w)).all id) = _; rw [pairsB_all (b :: w)]; rfl
theorem pairsB_len : ∀ w : List Int, (pairsB w).length ≤ w.length
  | [] => Nat.le_refl _
  | [_] => Nat.zero_le _
  | a :: b :: w => by show (pairsB (b :: w)).length + 1 ≤ _; have := pairsB_len (b :: w); simp at this ⊢; omega
def zp : List Int → List D
  | [] => []
  | [_] => []
  | a :: b :: w => .tup [.int a, .int b] :: zp (b :: w)
theorem zp_eq : ∀ w : List Int, zipD (dints w) ((dints w).drop 1) = zp w
  | [] => rfl
  | [_] => rfl
  | a :: b :: w => by
    have ih := zp_eq (b :: w)
    show .tup [.int a, .int b] :: zipD (dints (b :: w)) (dints w) = _
    rw [show dints w = (dints (b :: w)).drop 1 from rfl, ih]
    rfl
abbrev P_rd : FP := p2 gNe (p2 DL.gAdd (pName 1) (pName 2)) (pCon (.int 0))
abbrev G_rd : FG := gTp 2 (gsCons (gNm 1) (gsCons (gNm 2) gsNil))
theorem rd_list (x y z : Option S) : ∀ w : List Int, (∀ i ∈ w, Let 4 i) → lcL G_rd tAll P_rd [x, y, z] (zp w) = some ((pairsB w).map bl)
  | [], _ => rfl
  | [_], _ => rfl
  | a :: b :: w, h => by
    have ih := rd_list x y z (b :: w) fun j hj => h j (List.mem_cons_of_mem _ hj)
    show lcL G_rd tAll P_rd [x, y, z] (.tup [.int a, .int b] :: zp (b :: w)) = _
    unfold lcL
    rw [show G_rd (.tup [.int a, .int b]) [x, y, z] = some [x, some (.d (.int a)), some (.d (.int b))] from rfl, Option.bind_some]
    show ((P_rd [x, some (.d (.int a)), some (.d (.int b))]).bind fun r => r.item.bind fun q => (lcL G_rd tAll P_rd [x, y, z] (zp (b :: w))).map fun xs => q :: xs) = _
    have e : P_rd [x, some (.d (.int a)), some (.d (.int b))] = some (.fz (bl (!decide (a + b = 0)))) := by
      show gNe (.int (a + b)) (.int 0) = _
      have ha := h a List.mem_cons_self
      have hb := h b (List.mem_cons_of_mem _ List.mem_cons_self)
      unfold Let at ha hb
      rw [gNe_nice (nice_int (by omega)) (nice_int (by decide)) (Nat.zero_le _) (Nat.zero_le _), eqb_int]
      rfl
    rw [e, ih]
    rfl
theorem cut1 {α : Type} (xs : List α) : DL.cutD xs (some 1) none = xs.drop 1 := by
  unfold DL.cutD
  rw [show HT.sIx xs.length 0 (some 1) = min 1 xs.length from HT.sIx_nat _ _ 1, HT.sIx_none]
  cases xs with
  | nil => rfl
  | cons a xs => simp
theorem is_reduced_ok (w : List Int) (h : ∀ i ∈ w, Let 4 i) (hl : w.length ≤ 200) : F_is_reduced [.d (.tup (dints w))] = .ok (.d (.bl (redB w))) [some (.d (.tup (dints w)))] := by
  have e1 : iZip (aCons (pName 0) (aCons (pSl (pName 0) (oSome (pCon (.int 1))) oNone) aNil)) [some (.d (.tup (dints w))), none, none] = some (zp w, true) := by
    show zipR [.fz (.tup (dints w)), .fz (.tup (DL.cutD (dints w) (some 1) none))] = _
    rw [cut1]
    show some (zipD (dints w) ((dints w).drop 1), true) = _
    rw [zp_eq]
  have e2 : pLc [1, 2] (iZip (aCons (pName 0) (aCons (pSl (pName 0) (oSome (pCon (.int 1))) oNone) aNil))) G_rd tAll P_rd [some (.d (.tup (dints w))), none, none] = some (.fr ((pairsB w).map bl)) := by
    unfold pLc
    rw [e1, Option.bind_some]
    show (lcL G_rd tAll P_rd [some (.d (.tup (dints w))), none, none] (zp w)).bind _ = _
    rw [rd_list _ _ _ w h, Option.bind_some]
    refine if_pos ?_
    rw [List.length_map]
    have := pairsB_len w
    unfold SZ
    omega
  have e3 : B_is_reduced [some (.d (.tup (dints w))), none, none] = .rt (.d (.bl (redB w))) [some (.d (.tup (dints w))), none, none] :=
    ret_fz ((pCa_ok (aCons_ok e2 (rs := []) rfl)).trans ((gAll_bl (pairsB w)).trans (by rw [pairsB_all])))
  unfold F_is_reduced fnF
  rw [show enter 3 [.d (.tup (dints w))] = [some (.d (.tup (dints w))), none, none] from rfl, e3]
  rfl

def wordB (r : Int) (w : List Int) : Bool := w.all (letB r) && (decide (w.length ≤ 60) && redB w)
theorem is_word_ok (r : Int) (w : List Int) (h : ∀ i ∈ w, Let 4 i) (hl : w.length ≤ 200) : F_is_word [.d (.int r), .d (.tup (dints w))] = .ok (.d (.bl (wordB r w))) [some (.d (.int r)), some (.d (.tup (dints w)))] := by
  have e1 : pFd F_is_row (aCons (pName 0) (aCons (pName 1) aNil)) [some (.d (.int r)), some (.d (.tup (dints w)))] = some (.fz (.bl (w.all (letB r)))) :=
    (pFd_ok (rs := [.fz (.int r), .fz (.tup (dints w))]) rfl).trans (callP_fz (is_row_ok r w hl) (.inr rfl))
  have e2 : p2 gLe (pCa gLen (aCons (pName 1) aNil)) (pCon (.int 60)) [some (.d (.int r)), some (.d (.tup (dints w)))] = some (.fz (.bl (decide (w.length ≤ 60)))) := by
    show some (RV.fz (.bl (decide (((dints w).length : Int) ≤ 60)))) = _
    rw [dints_length]
    congr 3
    rw [decide_eq_decide]
    omega
  have e3 : pFd F_is_reduced (aCons (pName 1) aNil) [some (.d (.int r)), some (.d (.tup (dints w)))] = some (.fz (.bl (redB w))) :=
    (pFd_ok (rs := [.fz (.tup (dints w))]) rfl).trans (callP_fz (is_reduced_ok w h hl) (.inr rfl))
  have e4 : B_is_word [some (.d (.int r)), some (.d (.tup (dints w)))] = .rt (.d (.bl (wordB r w))) [some (.d (.int r)), some (.d (.tup (dints w)))] := by
    refine ret_fz ?_
    unfold wordB
    cases h1 : w.all (letB r) with
    | false => rw [h1] at e1; exact pAnd_f e1
    | true =>
      rw [h1] at e1
      refine (pAnd_t e1).trans ?_
      cases h2 : decide (w.length ≤ 60) with
      | false => rw [h2] at e2; exact pAnd_f e2
      | true => rw [h2] at e2; exact (pAnd_t e2).trans e3
  unfold F_is_word fnF
  rw [show enter 2 [.d (.int r), .d (.tup (dints w))] = [some (.d (.int r)), some (.d (.tup (dints w)))] from rfl, e4]
  rfl
theorem gw_wordB {r : Int} {w : List Int} (h : GW r w) (hl : w.length ≤ 60) : wordB r w = true := by
  unfold wordB
  rw [redB_iff.mpr h.1, decide_eq_true hl, List.all_eq_true.mpr fun i hi => letB_iff.mpr (h.2 i hi)]
  rfl
theorem want_word_ok {r : Int} {w : List Int} (h : ∀ i ∈ w, Let 4 i) (hl : w.length ≤ 200) (hw : wordB r w = true) : F_want_word [.d (.int r), .d (.tup (dints w))] = .ok (.d .non) [some (.d (.int r)), some (.d (.tup (dints w)))] := by
  have e1 : pFd F_is_word (aCons (pName 0) (aCons (pName 1) aNil)) [some (.d (.int r)), some (.d (.tup (dints w)))] = some (.fz (.bl true)) :=
    (pFd_ok (rs := [.fz (.int r), .fz (.tup (dints w))]) rfl).trans (callP_fz (by rw [← hw]; exact is_word_ok r w h hl) (.inr rfl))
  have e2 : B_want_word [some (.d (.int r)), some (.d (.tup (dints w)))] = .nx [some (.d (.int r)), some (.d (.tup (dints w)))] := by
    refine if_f ?_
    unfold DL.tNot
    rw [tVal_ok e1]
    rfl
  unfold F_want_word fnF
  rw [show enter 2 [.d (.int r), .d (.tup (dints w))] = [some (.d (.int r)), some (.d (.tup (dints w)))] from rfl, e2]
  rfl
theorem expr_fz {f : FP} {e : En} {x : D} (h : f e = some (.fz x)) : sExpr (mPP f) e = .nx e := by unfold sExpr mPP; rw [h]; rfl
theorem want_ranked_ok {r : Int} {w : List Int} (h1 : 1 ≤ r) (h2 : r ≤ 4) (h : ∀ i ∈ w, Let 4 i) (hl : w.length ≤ 200) (hw : wordB r w = true) : F_want_ranked [.d (.int r), .d (.tup (dints w))] = .ok (.d .non) [some (.d (.int r)), some (.d (.tup (dints w)))] := by
  have e1 : pFd F_want_rank (aCons (pName 0) aNil) [some (.d (.int r)), some (.d (.tup (dints w)))] = some (.fz .non) :=
    (pFd_ok (rs := [.fz (.int r)]) rfl).trans (callP_fz (want_rank_ok r h1 h2) (.inr rfl))
  have e2 : pFd F_want_word (aCons (pName 0) (aCons (pName 1) aNil)) [some (.d (.int r)), some (.d (.tup (dints w)))] = some (.fz .non) :=
    (pFd_ok (rs := [.fz (.int r), .fz (.tup (dints w))]) rfl).trans (callP_fz (want_word_ok h hl hw) (.inr rfl))
  have e3 : B_want_ranked [some (.d (.int r)), some (.d (.tup (dints w)))] = .nx [some (.d (.int r)), some (.d (.tup (dints w)))] := (seq_nx (expr_fz e1)).trans (expr_fz e2)
  unfold F_want_ranked fnF
  rw [show enter 2 [.d (.int r), .d (.tup (dints w))] = [some (.d (.int r)), some (.d (.tup (dints w)))] from rfl, e3]
  rfl
theorem pot_ok (ns : List Int) {t : Int} (t0 : 0 ≤ t) (t1 : t ≤ 1) : ∃ q, Pot q ∧ F__law_pot [.d (.ro (dints ns)), .d (.int t)] = .ok (.lst q) [some (.d (.ro (dints ns))), some (.d (.int t))] := by
  have fin : ∀ c : Int, ∃ q, Pot q ∧ (sRet (mPP (pLst (aCons (pCa gMax2 (aCons (pCon (.int 0)) (aCons (p2 DL.gSub (pName 2) (p2 gPow (pCon (.int 10)) (pCon (.int 18)))) aNil))) (aCons (p2 DL.gAdd (p2 gMod (pCa gInt (aCons (p2 DL.gAdd (p2 DL.gAdd (p2 DL.gMul (p2 gMod (pCa gInt (aCons (pName 2) aNil)) (pCon (.int 2147483549))) (pCon (.int 40014))) (p2 DL.gMul (pCon (.int 9601)) (pName 1))) (pCon (.int 61))) aNil)) (pCon (.int 2147483563))) (pCon (.int 1))) aNil)))) [some (.d (.ro (dints ns))), some (.d (.int t)), some (.d (.int c))] = .rt (.lst q) [some (.d (.ro (dints ns))), some (.d (.int t)), some (.d (.int c))]) := fun c => by
    have c0 : 0 ≤ c % 2147483549 := Int.emod_nonneg _ (by decide)
    have c1 : c % 2147483549 < 2147483549 := Int.emod_lt_of_pos _ (by decide)
    have m1 := gMul_int (i := c % 2147483549) (j := 40014) (by omega) (by decide)
    have m2' := gMul_int (i := 9601) (j := t) (by decide) (by omega)
    refine ⟨[.int (if c - 10 ^ 18 > 0 then c - 10 ^ 18 else 0), .int ((c % 2147483549 * 40014 + 9601 * t + 61) % 2147483563 + 1)], ⟨_, _, rfl, ?_, ?_, ?_⟩, ?_⟩
    · split <;> omega
    · have := Int.emod_nonneg (c % 2147483549 * 40014 + 9601 * t + 61) (show (2147483563 : Int) ≠ 0 by decide)
      omega
    · have := Int.emod_lt_of_pos (c % 2147483549 * 40014 + 9601 * t + 61) (show (0 : Int) < 2147483563 by decide)
      omega
    · simp [m1, m2', show 2 ≤ SZ by decide]
  have m0 := gMul_int (i := 1301) (j := t) (by decide) (by omega)
  have s1 : sSet 2 (mPP (p2 DL.gAdd (p2 DL.gMul (pCon (.int 1301)) (pName 1)) (pCon (.int 9601)))) [some (.d (.ro (dints ns))), some (.d (.int t)), none] = .nx [some (.d (.ro (dints ns))), some (.d (.int t)), some (.d (.int (1301 * t + 9601)))] := by
    simp [m0]
  have lt : tVal (p2 DL.gLt (pName 1) (pCa gLen (aCons (pName 0) aNil))) [some (.d (.ro (dints ns))), some (.d (.int t)), some (.d (.int (1301 * t + 9601)))] = some (decide (t < (ns.length : Int))) := by
    refine tVal_ok ?_
    show DL.gLt (.int t) (.int ((dints ns).length : Nat)) = _
    rw [dints_length]
    rfl
  have b : ∃ q c, Pot q ∧ B__law_pot [some (.d (.ro (dints ns))), some (.d (.int t)), none] = .rt (.lst q) [some (.d (.ro (dints ns))), some (.d (.int t)), some (.d (.int c))] := by
    by_cases q : t < (ns.length : Int)
    · rw [decide_eq_true q] at lt
      have hk : t.toNat < ns.length := by omega
      have a1 : atI (dints ns) t = some (.int ns[t.toNat]) := by
        rw [show dints ns = ns.map D.int from rfl, atI_map]
        unfold atI ixN
        rw [if_pos t0, if_pos q]
        simp [hk]
      obtain ⟨v, hv, e⟩ := fin (if ns[t.toNat] < 0 then -ns[t.toNat] else ns[t.toNat])
      refine ⟨v, _, hv, (seq_nx s1).trans ((seq_nx ((if_t lt).trans ?_)).trans e)⟩
      refine set_fz ?_ (by show 2 < 3; decide)
      have x1 : p2 gIx (pName 0) (pName 1) [some (.d (.ro (dints ns))), some (.d (.int t)), some (.d (.int (1301 * t + 9601)))] = some (.fz (.int ns[t.toNat])) :=
        (p2_ok (a := .fz (.ro (dints ns))) (b := .fz (.int t)) rfl rfl).trans (by
          show (atI (dints ns) t).map RV.fz = _
          rw [a1]
          rfl)
      exact (pCa_ok (aCons_ok (rs := []) x1 rfl)).trans rfl
    · rw [decide_eq_false q] at lt
      obtain ⟨v, hv, e⟩ := fin (1301 * t + 9601)
      exact ⟨v, _, hv, (seq_nx s1).trans ((seq_nx ((if_f lt).trans rfl)).trans e)⟩
  obtain ⟨v, c, hv, e⟩ := b
  refine ⟨v, hv, ?_⟩
  unfold F__law_pot fnF
  rw [show lkOk [] 0 [.d (.ro (dints ns)), .d (.int t)] = true from rfl, if_pos rfl, show enter 3 [.d (.ro (dints ns)), .d (.int t)] = [some (.d (.ro (dints ns))), some (.d (.int t)), none] from rfl, e]
  rfl

end G14

set_option maxHeartbeats 4000000
namespace G14
open PySem PySem.Spec PyProof.Rows L2 DL
open FG (Red red inv pw push stk)
/-! ### words as data -/
abbrev tw (w : List Int) : D := .tup (dints w)
def L4 (w : List Int) : Prop := ∀ i ∈ w, Let 4 i
theorem nice_tw {w : List Int} (h : L4 w) : (tw w).nice = true := nice_dints fun j hj => natAbs_let (Int.le_refl 4) (h j hj)
theorem dep_tw (w : List Int) : (tw w).dep ≤ 64 := by show depL (dints w) + 1 ≤ 64; rw [dep_dints]; decide
theorem gEq_tw {v w : List Int} (hv : L4 v) (hw : L4 w) : gEq (tw v) (tw w) = some (.fz (.bl (decide (v = w)))) := by
  rw [gEq_nice (nice_tw hv) (nice_tw hw) (dep_tw v) (dep_tw w), eqb_tupI]
theorem gNe_tw {v w : List Int} (hv : L4 v) (hw : L4 w) : gNe (tw v) (tw w) = some (.fz (.bl (!decide (v = w)))) := by
  rw [gNe_nice (nice_tw hv) (nice_tw hw) (dep_tw v) (dep_tw w), eqb_tupI]
theorem gEq_int {i j : Int} (hi : i.natAbs < 2 ^ 64) (hj : j.natAbs < 2 ^ 64) : gEq (.int i) (.int j) = some (.fz (.bl (decide (i = j)))) := by
  rw [gEq_nice (nice_int hi) (nice_int hj) (Nat.zero_le _) (Nat.zero_le _), eqb_int]
theorem gNe_int {i j : Int} (hi : i.natAbs < 2 ^ 64) (hj : j.natAbs < 2 ^ 64) : gNe (.int i) (.int j) = some (.fz (.bl (!decide (i = j)))) := by
  rw [gNe_nice (nice_int hi) (nice_int hj) (Nat.zero_le _) (Nat.zero_le _), eqb_int]
theorem flat_dints : ∀ w : List Int, flatL (dints w) = true
  | [] => rfl
  | i :: w => by
    show ((D.int i).flat && flatL (dints w)) = true
    rw [flat_dints w]
    rfl
theorem L4.nil : L4 [] := fun _ h => nomatch h
theorem L4.app {v w : List Int} (hv : L4 v) (hw : L4 w) : L4 (v ++ w) := fun i hi => by
  rcases List.mem_append.mp hi with h | h
  · exact hv i h
  · exact hw i h
theorem L4.l {v w : List Int} (h : L4 (v ++ w)) : L4 v := fun i hi => h i (List.mem_append_left _ hi)
theorem L4.r {v w : List Int} (h : L4 (v ++ w)) : L4 w := fun i hi => h i (List.mem_append_right _ hi)
theorem L4.inv {w : List Int} (h : L4 w) : L4 (inv w) := fun i hi => by
  have := h _ (FG.mem_inv.mp hi)
  unfold Let at *
  omega
theorem L4.red {w : List Int} (h : L4 w) : L4 (red w) := fun i hi => h i (FG.mem_red hi)
theorem L4.pw {w : List Int} (h : L4 w) : ∀ n, L4 (pw w n)
  | 0 => L4.nil
  | n + 1 => h.app (L4.pw h n)
theorem L4.z {w : List Int} (h : L4 w) : ∀ i ∈ w, i ≠ 0 := fun i hi => (h i hi).1
theorem L4.take {w : List Int} (h : L4 w) (n : Nat) : L4 (w.take n) := fun i hi => h i (List.mem_of_mem_take hi)
theorem gw4 {r : Int} {w : List Int} (h2 : r ≤ 4) (h : GW r w) : L4 w := fun i hi => let_up h2 (h.2 i hi)
theorem dints_reverse (w : List Int) : dints w.reverse = (dints w).reverse := List.map_reverse ..
theorem dints_take (w : List Int) (n : Nat) : dints (w.take n) = (dints w).take n := List.map_take ..
theorem dints_drop (w : List Int) (n : Nat) : dints (w.drop n) = (dints w).drop n := List.map_drop ..
theorem cut_to {α : Type} (xs : List α) (n : Nat) : DL.cutD xs none (some (n : Int)) = xs.take n := by
  unfold DL.cutD
  rw [HT.sIx_nat, HT.sIx_none, List.drop_zero, Nat.sub_zero]
  by_cases h : n ≤ xs.length
  · rw [Nat.min_eq_left h]
  · rw [Nat.min_eq_right (by omega), List.take_of_length_le (Nat.le_refl _), List.take_of_length_le (by omega)]
theorem cut_mid {α : Type} (xs : List α) {m n : Nat} (h : n ≤ xs.length) (h2 : m ≤ n) : DL.cutD xs (some (m : Int)) (some (n : Int)) = (xs.drop m).take (n - m) := by
  unfold DL.cutD
  rw [HT.sIx_nat, HT.sIx_nat, Nat.min_eq_left h, Nat.min_eq_left (by omega)]
/-! ### reduced_of -/
abbrev B_ro : FS := sIf (tMT (DL.tAnd (tVal (p2 gNe (pName 1) (pLst aNil))) (tVal (p2 gEq (p2 DL.gAdd (p2 gIx (pName 1) (p1 gNeg (pCon (.int 1)))) (pName 2)) (pCon (.int 0)))))) (sExpr (chg0 1 gPop)) (sExpr (mMt 1 gApp (mPP (pName 2))))
theorem last_int (r : List Int) (b : Int) : atI (dints (r ++ [b])) (-1) = some (.int b) := by
  rw [last_dints (by simp)]
  unfold lastI
  simp
theorem ro_step (x : Option S) {s : List Int} {a : Int} (hs : L4 s) (ha : Let 4 a) (hl : s.length < 100000) : B_ro [x, some (.lst (dints s.reverse)), some (.d (.int a))] = .nx [x, some (.lst (dints (push s a).reverse)), some (.d (.int a))] := by
  cases s with
  | nil =>
    have e : gNe (.lst []) (.lst []) = some (.fz (.bl false)) := by
      rw [gNe_nice rfl rfl (by decide) (by decide)]
      exact congrArg (fun b => some (RV.fz (.bl b))) (by rw [eqb_refl rfl]; rfl)
    have z : 0 < SZ := by decide
    simp [B_ro, e, push, z]
  | cons b r =>
    have hb := hs b List.mem_cons_self
    have hsr : L4 (r.reverse ++ [b]) := fun i hi => hs i (by simpa [or_comm] using hi)
    have e1 : gNe (.lst (dints (r.reverse ++ [b]))) (.lst []) = some (.fz (.bl true)) := by
      have := eqb_lstI (r.reverse ++ [b]) []
      rw [dints_nil] at this
      rw [gNe_nice (x := .lst (dints (r.reverse ++ [b]))) (y := .lst []) (nice_dints fun j hj => natAbs_let (Int.le_refl 4) (hsr j hj)) rfl (by show depL _ + 1 ≤ 64; rw [dep_dints]; decide) (by decide), this]
      simp
    have e2 := last_int r.reverse b
    have e3 : gEq (.int (b + a)) (.int 0) = some (.fz (.bl (decide (b + a = 0)))) := gEq_int (by unfold Let at *; omega) (by decide)
    have e4 : (dints (r.reverse ++ [b])).length < SZ := by
      rw [dints_length]
      simp at hl ⊢
      unfold SZ
      omega
    have e5 : (dints (r.reverse ++ [b]))[(dints (r.reverse ++ [b])).length - 1]? = some (.int b) := by
      rw [← List.getLast?_eq_getElem?, dints_append]
      simp
    have e6 : (dints (r.reverse ++ [b])).dropLast = dints r.reverse := by
      rw [dints_append]
      simp
    have e7 : dints (r.reverse ++ [b]) ++ [.int a] = dints ((a :: b :: r).reverse) := by
      have : (a :: b :: r).reverse = (r.reverse ++ [b]) ++ [a] := by simp
      rw [this, dints_append (r.reverse ++ [b])]
      rfl
    have er : dints (b :: r).reverse = dints (r.reverse ++ [b]) := by rw [List.reverse_cons]
    rw [FG.push_eq, er]
    generalize dints (r.reverse ++ [b]) = X at *
    by_cases q : b + a = 0
    · rw [decide_eq_true q] at e3
      rw [if_pos q]
      simp [B_ro, e1, e2, e3, e5, e6]
    · rw [decide_eq_false q] at e3
      rw [if_neg q]
      simp [B_ro, e1, e2, e3, e4]
      simpa using e7
theorem L4.push {s : List Int} {a : Int} (hs : L4 s) (ha : Let 4 a) : L4 (push s a) := fun i hi => by
  rcases FG.mem_push hi with h | h
  · exact hs i h
  · rw [h]; exact ha
theorem ro_loop (x : Option S) : ∀ (w : List Int) {s : List Int} {t : Option S}, L4 s → L4 w → s.length + w.length < 100000 → ∃ t', forL (gNm 2) B_ro (dints w) [x, some (.lst (dints s.reverse)), t] = .nx [x, some (.lst (dints (stk w s).reverse)), t']
  | [], s, t, _, _, _ => ⟨t, rfl⟩
  | a :: w, s, t, hs, hw, hl => by
    rw [List.length_cons] at hl
    have ha := hw a List.mem_cons_self
    have step := ro_step x hs ha (by omega)
    have := FG.push_len s a
    obtain ⟨t', ih⟩ := ro_loop x w (s := push s a) (t := some (.d (.int a))) (hs.push ha) (fun i hi => hw i (List.mem_cons_of_mem _ hi)) (by omega)
    refine ⟨t', ?_⟩
    rw [dints_cons]
    unfold forL
    rw [show gNm 2 (.int a) [x, some (.lst (dints s.reverse)), t] = some [x, some (.lst (dints s.reverse)), some (.d (.int a))] from rfl]
    simp only [step]
    exact ih
theorem reduced_of_ok {w : List Int} (h : L4 w) (hl : w.length < 100000) : F_reduced_of [.d (.lst (dints w))] = .ok (.d (tw (red w))) [some (.d (.lst (dints w)))] := by
  obtain ⟨t', e⟩ := ro_loop (some (.d (.lst (dints w)))) w (s := []) (t := none) L4.nil h (by simpa using hl)
  have q1 : sSetO 1 (mPP (pLst aNil)) [some (.d (.lst (dints w))), none, none] = .nx [some (.d (.lst (dints w))), some (.lst []), none] := by simp
  have q2 : sFor (iSeq (pName 0)) (gNm 2) B_ro [some (.d (.lst (dints w))), some (.lst []), none] = .nx [some (.d (.lst (dints w))), some (.lst (dints (stk w []).reverse)), t'] := e
  have q3 : B_reduced_of [some (.d (.lst (dints w))), none, none] = .rt (.d (tw (red w))) [some (.d (.lst (dints w))), some (.lst (dints (stk w []).reverse)), t'] := (seq_nx q1).trans ((seq_nx q2).trans (ret_fz rfl))
  unfold F_reduced_of fnF
  rw [show enter 3 [.d (.lst (dints w))] = [some (.d (.lst (dints w))), none, none] from rfl, q3]
  rfl
/-! ### undone_of -/
abbrev P_ud : FP := p2 DL.gSub (pCon (.int 0)) (pName 1)
theorem ud_list (x y : Option S) : ∀ w : List Int, lcL (gNm 1) tAll P_ud [x, y] (dints w) = some (dints (w.map fun a => -a))
  | [] => rfl
  | i :: w => by
    rw [dints_cons]
    unfold lcL
    show ((P_ud [x, some (.d (.int i))]).bind fun r => r.item.bind fun z => (lcL (gNm 1) tAll P_ud [x, y] (dints w)).map fun xs => z :: xs) = _
    rw [ud_list x y w]
    show some (D.int (0 - i) :: dints (w.map fun a => -a)) = _
    rw [Int.zero_sub]
    rfl
theorem ud_run {w : List Int} (hl : w.length ≤ 100000) : sRet (mPP (pCa gTuple (aCons (pLc [1] (iSeq (pRev (pName 0))) (gNm 1) tAll P_ud) aNil))) [some (.d (tw w)), none] = .rt (.d (tw (inv w))) [some (.d (tw w)), none] := by
  refine ret_fz ((pCa_ok (aCons_ok (rs := []) (pLc_ok (ds := dints w.reverse) (b := true) (xs := dints (inv w)) ?_ ?_ ?_) rfl)).trans rfl)
  · rw [dints_reverse]; rfl
  · rw [show wipeE [some (.d (tw w)), none] [1] = [some (.d (tw w)), none] from rfl, ud_list]
    unfold inv
    rw [List.map_reverse]
  · rw [dints_length, FG.inv_length]
    unfold SZ
    omega
theorem undone_of_ok {w : List Int} (hl : w.length ≤ 100000) : F_undone_of [.d (tw w)] = .ok (.d (tw (inv w))) [some (.d (tw w))] := by
  unfold F_undone_of fnF
  rw [show enter 2 [.d (tw w)] = [some (.d (tw w)), none] from rfl, show B_undone_of [some (.d (tw w)), none] = _ from ud_run hl]
  rfl
theorem law_undone_ok {w : List Int} (hl : w.length ≤ 100000) : F__law_undone [.d (tw w)] = .ok (.d (tw (inv w))) [some (.d (tw w))] := by
  unfold F__law_undone fnF
  rw [show enter 2 [.d (tw w)] = [some (.d (tw w)), none] from rfl, show B__law_undone [some (.d (tw w)), none] = _ from ud_run hl]
  rfl
/-! ### put_together -/
abbrev B_pt : FS := sExpr (mMt 1 gExt (mPP (pCa gList (aCons (pName 2) aNil))))
theorem pt_loop (x : Option S) : ∀ (ws : List (List Int)) {acc : List Int} {t : Option S}, acc.length + ws.flatten.length ≤ 100000 → ∃ t', forL (gNm 2) B_pt (ws.map tw) [x, some (.lst (dints acc)), t] = .nx [x, some (.lst (dints (acc ++ ws.flatten))), t']
  | [], acc, t, _ => ⟨t, by rw [List.flatten_nil, List.append_nil]; rfl⟩
  | w :: ws, acc, t, hl => by
    rw [List.flatten_cons, List.length_append] at hl
    obtain ⟨t', ih⟩ := pt_loop x ws (acc := acc ++ w) (t := some (.d (tw w))) (by rw [List.length_append]; omega)
    refine ⟨t', ?_⟩
    have z : acc.length + w.length ≤ SZ := by unfold SZ; omega
    have step : B_pt [x, some (.lst (dints acc)), some (.d (tw w))] = .nx [x, some (.lst (dints (acc ++ w))), some (.d (tw w))] := by
      simp [B_pt, z, dints_append]
    rw [List.map_cons]
    unfold forL
    rw [show gNm 2 (tw w) [x, some (.lst (dints acc)), t] = some [x, some (.lst (dints acc)), some (.d (tw w))] from rfl]
    simp only [step]
    rw [List.flatten_cons, ← List.append_assoc]
    exact ih
theorem put_together_ok {ws : List (List Int)} (h : L4 ws.flatten) (hl : ws.flatten.length < 100000) : F_put_together [.d (.lst (ws.map tw))] = .ok (.d (tw (red ws.flatten))) [some (.d (.lst (ws.map tw)))] := by
  obtain ⟨t', e⟩ := pt_loop (some (.d (.lst (ws.map tw)))) ws (acc := []) (t := none) (by simpa using Nat.le_of_lt hl)
  rw [List.nil_append] at e
  have q1 : sSetO 1 (mPP (pLst aNil)) [some (.d (.lst (ws.map tw))), none, none] = .nx [some (.d (.lst (ws.map tw))), some (.lst []), none] := by simp
  have q2 : sFor (iSeq (pName 0)) (gNm 2) B_pt [some (.d (.lst (ws.map tw))), some (.lst []), none] = .nx [some (.d (.lst (ws.map tw))), some (.lst (dints ws.flatten)), t'] := e
  have q3 : B_put_together [some (.d (.lst (ws.map tw))), none, none] = .rt (.d (tw (red ws.flatten))) [some (.d (.lst (ws.map tw))), some (.lst (dints ws.flatten)), t'] :=
    (seq_nx q1).trans ((seq_nx q2).trans (ret_fz ((pFd_ok (rs := [.ow (dints ws.flatten)]) rfl).trans (callP_fz (reduced_of_ok h hl) (.inr (flat_dints _))))))
  unfold F_put_together fnF
  rw [show enter 3 [.d (.lst (ws.map tw))] = [some (.d (.lst (ws.map tw))), none, none] from rfl, q3]
  rfl
theorem flat_rep (w : List Int) : ∀ n, (List.replicate n w).flatten = pw w n
  | 0 => rfl
  | n + 1 => by
    rw [List.replicate_succ, List.flatten_cons, flat_rep w n]
    rfl
theorem rep_one {α : Type} (a : α) : ∀ n, (List.replicate n [a]).flatten = List.replicate n a
  | 0 => rfl
  | n + 1 => by
    rw [List.replicate_succ, List.flatten_cons, rep_one a n]
    rfl
theorem gMul_rep (d : D) {k : Int} (h : k.natAbs ≤ 10000) : gMul (.lst [d]) (.int k) = some (.fr (List.replicate k.toNat d)) := by
  unfold gMul
  rw [← rep_one]
  refine if_pos ⟨by omega, by omega, ?_⟩
  have : k.toNat ≤ 10000 := by omega
  simp
  unfold SZ
  omega
theorem power_of_ok {w : List Int} {k : Int} (h : L4 w) (hk : k.natAbs ≤ 1000) (hl : w.length * k.natAbs < 100000) (hw : w.length ≤ 1000) : F_power_of [.d (tw w), .d (.int k)] = .ok (.d (tw (red (pw (if 0 < k then w else inv w) k.natAbs)))) [some (.d (tw w)), some (.d (.int k))] := by
  have e1 : pIf (tVal (p2 gGt (pName 1) (pCon (.int 0)))) (pName 0) (pFd F_undone_of (aCons (pName 0) aNil)) [some (.d (tw w)), some (.d (.int k))] = some (.fz (tw (if 0 < k then w else inv w))) := by
    have t : tVal (p2 gGt (pName 1) (pCon (.int 0))) [some (.d (tw w)), some (.d (.int k))] = some (decide (0 < k)) := rfl
    by_cases q : 0 < k
    · rw [decide_eq_true q] at t
      rw [if_pos q, pIf_t t]
      rfl
    · rw [decide_eq_false q] at t
      rw [if_neg q, pIf_f t]
      exact (pFd_ok (rs := [.fz (tw w)]) rfl).trans (callP_fz (undone_of_ok (by omega)) (.inl rfl))
  have hv : L4 (if 0 < k then w else inv w) := by
    split
    · exact h
    · exact h.inv
  have lv : (if 0 < k then w else inv w).length = w.length := by
    split
    · rfl
    · exact FG.inv_length w
  generalize (if 0 < k then w else inv w) = v at *
  have e2 : pLst (aCons (pIf (tVal (p2 gGt (pName 1) (pCon (.int 0)))) (pName 0) (pFd F_undone_of (aCons (pName 0) aNil))) aNil) [some (.d (tw w)), some (.d (.int k))] = some (.fr [tw v]) := by
    unfold pLst
    rw [aCons_ok (rs := []) e1 rfl]
    rfl
  have e3 : pCa gAbs (aCons (pName 1) aNil) [some (.d (tw w)), some (.d (.int k))] = some (.fz (.int (k.natAbs : Int))) := by
    show some (RV.fz (.int (if k < 0 then -k else k))) = _
    congr 3
    split <;> omega
  have e4 : p2 DL.gMul (pLst (aCons (pIf (tVal (p2 gGt (pName 1) (pCon (.int 0)))) (pName 0) (pFd F_undone_of (aCons (pName 0) aNil))) aNil)) (pCa gAbs (aCons (pName 1) aNil)) [some (.d (tw w)), some (.d (.int k))] = some (.fr ((List.replicate k.natAbs v).map tw)) := by
    refine (p2_ok e2 e3).trans ?_
    show gMul (.lst [tw v]) (.int (k.natAbs : Int)) = _
    rw [gMul_rep _ (by omega), List.map_replicate]
    rfl
  have fl := flat_rep v k.natAbs
  have e5 : pFd F_put_together (aCons (p2 DL.gMul (pLst (aCons (pIf (tVal (p2 gGt (pName 1) (pCon (.int 0)))) (pName 0) (pFd F_undone_of (aCons (pName 0) aNil))) aNil)) (pCa gAbs (aCons (pName 1) aNil))) aNil) [some (.d (tw w)), some (.d (.int k))] = some (.fz (tw (red (pw v k.natAbs)))) := by
    rw [← fl]
    refine (pFd_ok (rs := [.fr ((List.replicate k.natAbs v).map tw)]) (aCons_ok (rs := []) e4 rfl)).trans (callP_fz (put_together_ok ?_ ?_) (.inl rfl))
    · rw [fl]; exact hv.pw _
    · rw [fl, FG.pw_length, lv, Nat.mul_comm]; exact hl
  have q : B_power_of [some (.d (tw w)), some (.d (.int k))] = .rt (.d (tw (red (pw v k.natAbs)))) [some (.d (tw w)), some (.d (.int k))] := ret_fz e5
  unfold F_power_of fnF
  rw [show enter 2 [.d (tw w), .d (.int k)] = [some (.d (tw w)), some (.d (.int k))] from rfl, q]
  rfl
/-! ### while -/
theorem wh_t {fc : FM} {fb : FS} {n : Nat} {e e1 e2 : En} (h : fc e = .ok (.d (.bl true)) e1) (h2 : fb e1 = .nx e2) : whileF fc fb (n + 1) e = whileF fc fb n e2 := by
  show (match fc e with
    | .ok (.d (.bl b)) e1 => if b = true then (match fb e1 with
      | .nx e2 => whileF fc fb n e2
      | .ct e2 => whileF fc fb n e2
      | .bk e2 => .nx e2
      | o => o) else .nx e1
    | .ex x e1 => .ex x e1
    | _ => .stuck) = _
  rw [h]
  simp only [if_true, h2]
theorem wh_f {fc : FM} {fb : FS} {n : Nat} {e e1 : En} (h : fc e = .ok (.d (.bl false)) e1) : whileF fc fb (n + 1) e = .nx e1 := by
  show (match fc e with
    | .ok (.d (.bl b)) e1 => if b = true then (match fb e1 with
      | .nx e2 => whileF fc fb n e2
      | .ct e2 => whileF fc fb n e2
      | .bk e2 => .nx e2
      | o => o) else .nx e1
    | .ex x e1 => .ex x e1
    | _ => .stuck) = _
  rw [h]
  rfl
theorem tMT_ok {ft : FT} {e : En} {b : Bool} (h : ft e = some b) : tMT ft e = .ok (.d (.bl b)) e := by unfold tMT; rw [h]
/-! ### ring_of -/
theorem at_mid (h m : List Int) (a : Int) : atI (dints (h ++ a :: m)) (h.length : Int) = some (.int a) := by
  rw [show dints (h ++ a :: m) = (h ++ a :: m).map D.int from rfl, atI_map]
  unfold atI ixN
  rw [if_pos (by omega), if_pos (by simp; omega)]
  simp
abbrev T_rg : FT := DL.tAnd (tVal (p2 DL.gLt (pName 1) (p2 DL.gSub (p2 DL.gSub (pCa gLen (aCons (pName 0) aNil)) (pCon (.int 1))) (pName 1)))) (tVal (p2 gEq (p2 DL.gAdd (p2 gIx (pName 0) (pName 1)) (p2 gIx (pName 0) (p2 DL.gSub (p2 DL.gSub (pCa gLen (aCons (pName 0) aNil)) (pCon (.int 1))) (pName 1)))) (pCon (.int 0))))
abbrev B_rg : FS := sSet 1 (mPP (p2 DL.gAdd (pName 1) (pCon (.int 1))))
theorem rg_loop {w : List Int} (hw : L4 w) : ∀ (n : Nat) {h m : List Int}, m.length ≤ n → m ≠ [] → w = h ++ m ++ inv h → Red m → ∃ h' c, FG.Rg w h' c ∧ ∀ fu, n < fu → whileF (tMT T_rg) B_rg fu [some (.d (tw w)), some (.d (.int (h.length : Int)))] = .nx [some (.d (tw w)), some (.d (.int (h'.length : Int)))]
  | 0, h, m, hn, hm, _, _ => absurd (List.length_eq_zero_iff.mp (by omega)) hm
  | n + 1, h, m, hn, hm, e, hr => by
    match m, hm, e, hr, hn with
    | [a], _, e, hr, hn =>
      have ha : a ≠ 0 := hw.z a (by rw [e]; simp)
      refine ⟨h, [a], ⟨e, FG.cyc_one ha⟩, fun fu hfu => ?_⟩
      obtain ⟨fu, rfl⟩ : ∃ k, fu = k + 1 := ⟨fu - 1, by omega⟩
      refine wh_f (tMT_ok ?_)
      have hl : w.length = h.length + 1 + h.length := by rw [e]; simp [FG.inv_length]; omega
      have t1 : tVal (p2 DL.gLt (pName 1) (p2 DL.gSub (p2 DL.gSub (pCa gLen (aCons (pName 0) aNil)) (pCon (.int 1))) (pName 1))) [some (.d (tw w)), some (.d (.int (h.length : Int)))] = some false := by
        show some (decide ((h.length : Int) < ((dints w).length : Int) - 1 - (h.length : Int))) = _
        rw [dints_length, hl, decide_eq_false (by omega)]
      unfold T_rg DL.tAnd
      rw [t1]
      rfl
    | a :: d :: t, _, e, hr, hn =>
      obtain ⟨m, b, q⟩ : ∃ m b, d :: t = m ++ [b] := by
        rcases List.eq_nil_or_concat (d :: t) with q | ⟨m, b, q⟩
        · cases q
        · exact ⟨m, b, by rw [q, List.concat_eq_append]⟩
      rw [q] at e hr hn
      have hl : w.length = h.length + (m.length + 2) + h.length := by rw [e]; simp [FG.inv_length]; omega
      have t1 : tVal (p2 DL.gLt (pName 1) (p2 DL.gSub (p2 DL.gSub (pCa gLen (aCons (pName 0) aNil)) (pCon (.int 1))) (pName 1))) [some (.d (tw w)), some (.d (.int (h.length : Int)))] = some true := by
        show some (decide ((h.length : Int) < ((dints w).length : Int) - 1 - (h.length : Int))) = _
        rw [dints_length, hl, decide_eq_true (by omega)]
      have x1 : atI (dints w) (h.length : Int) = some (.int a) := by
        have := at_mid h (m ++ [b] ++ inv h) a
        rw [show h ++ a :: (m ++ [b] ++ inv h) = w by rw [e]; simp] at this
        exact this
      have x2 : atI (dints w) (((dints w).length : Int) - 1 - (h.length : Int)) = some (.int b) := by
        have := at_mid (h ++ a :: m) (inv h) b
        rw [show (h ++ a :: m) ++ b :: inv h = w by rw [e]; simp] at this
        rw [← this, dints_length, hl]
        congr 1
        simp
        omega
      have ha : Let 4 a := hw a (by rw [e]; simp)
      have hb : Let 4 b := hw b (by rw [e]; simp)
      have t2 : tVal (p2 gEq (p2 DL.gAdd (p2 gIx (pName 0) (pName 1)) (p2 gIx (pName 0) (p2 DL.gSub (p2 DL.gSub (pCa gLen (aCons (pName 0) aNil)) (pCon (.int 1))) (pName 1)))) (pCon (.int 0))) [some (.d (tw w)), some (.d (.int (h.length : Int)))] = some (decide (a + b = 0)) := by
        have y1 : p2 gIx (pName 0) (pName 1) [some (.d (tw w)), some (.d (.int (h.length : Int)))] = some (.fz (.int a)) := by
          show (atI (dints w) (h.length : Int)).map RV.fz = _
          rw [x1]
          rfl
        have y2 : p2 gIx (pName 0) (p2 DL.gSub (p2 DL.gSub (pCa gLen (aCons (pName 0) aNil)) (pCon (.int 1))) (pName 1)) [some (.d (tw w)), some (.d (.int (h.length : Int)))] = some (.fz (.int b)) := by
          show (atI (dints w) (((dints w).length : Int) - 1 - (h.length : Int))).map RV.fz = _
          rw [x2]
          rfl
        have y3 : p2 DL.gAdd (p2 gIx (pName 0) (pName 1)) (p2 gIx (pName 0) (p2 DL.gSub (p2 DL.gSub (pCa gLen (aCons (pName 0) aNil)) (pCon (.int 1))) (pName 1))) [some (.d (tw w)), some (.d (.int (h.length : Int)))] = some (.fz (.int (a + b))) := (p2_ok y1 y2).trans rfl
        exact tVal_ok ((p2_ok y3 (b := .fz (.int 0)) rfl).trans (gEq_int (by unfold Let at *; omega) (by decide)))
      have T : T_rg [some (.d (tw w)), some (.d (.int (h.length : Int)))] = some (decide (a + b = 0)) := by
        unfold T_rg DL.tAnd
        rw [t1]
        exact t2
      by_cases k : a + b = 0
      · have hm : m ≠ [] := fun z => by subst z; exact hr.1 k
        obtain ⟨h', c, g, ih⟩ := rg_loop hw n (h := h ++ [a]) (m := m) (by simp at hn; omega) hm (by rw [e]; exact FG.rg_step k) (FG.red_mid hr)
        refine ⟨h', c, g, fun fu hfu => ?_⟩
        obtain ⟨fu, rfl⟩ : ∃ k, fu = k + 1 := ⟨fu - 1, by omega⟩
        rw [decide_eq_true k] at T
        refine (wh_t (tMT_ok T) (e2 := [some (.d (tw w)), some (.d (.int ((h ++ [a]).length : Int)))]) ?_).trans (ih fu (by omega))
        have : ((h ++ [a]).length : Int) = (h.length : Int) + 1 := by simp
        rw [this]
        rfl
      · refine ⟨h, a :: m ++ [b], ⟨e, FG.cyc_of hr k⟩, fun fu hfu => ?_⟩
        obtain ⟨fu, rfl⟩ : ∃ k, fu = k + 1 := ⟨fu - 1, by omega⟩
        rw [decide_eq_false k] at T
        exact wh_f (tMT_ok T)
theorem ring_of_ok {w : List Int} (hw : L4 w) (hr : Red w) (hn : w ≠ []) (hl : w.length < 100000) : ∃ h c, FG.Rg w h c ∧ F_ring_of [.d (tw w)] = .ok (.d (.tup [tw h, tw c])) [some (.d (tw w))] := by
  obtain ⟨h, c, g, e⟩ := rg_loop hw w.length (h := []) (m := w) (Nat.le_refl _) hn (by simp [inv]) hr
  refine ⟨h, c, g, ?_⟩
  have e := e FUEL (by unfold FUEL; omega)
  have hlen : w.length = h.length + c.length + h.length := by rw [g.1]; simp [FG.inv_length]; omega
  have c1 : DL.cutD (dints w) none (some (h.length : Int)) = dints h := by
    rw [cut_to, ← dints_take, g.1]
    simp
  have c2 : DL.cutD (dints w) (some (h.length : Int)) (some (((dints w).length : Int) - (h.length : Int))) = dints c := by
    have : ((dints w).length : Int) - (h.length : Int) = ((h.length + c.length : Nat) : Int) := by rw [dints_length, hlen]; omega
    rw [this, cut_mid _ (by rw [dints_length]; omega) (by omega), ← dints_drop, ← dints_take, g.1]
    simp
  have q1 : sSet 1 (mPP (pCon (.int 0))) [some (.d (tw w)), none] = .nx [some (.d (tw w)), some (.d (.int (([] : List Int).length : Int)))] := rfl
  have q3 : sRet (mPP (pTup (aCons (pSl (pName 0) oNone (oSome (pName 1))) (aCons (pSl (pName 0) (oSome (pName 1)) (oSome (p2 DL.gSub (pCa gLen (aCons (pName 0) aNil)) (pName 1)))) aNil)))) [some (.d (tw w)), some (.d (.int (h.length : Int)))] = .rt (.d (.tup [tw h, tw c])) [some (.d (tw w)), some (.d (.int (h.length : Int)))] := by
    refine ret_fz ?_
    have x1 : pSl (pName 0) oNone (oSome (pName 1)) [some (.d (tw w)), some (.d (.int (h.length : Int)))] = some (.fz (tw h)) := by
      show some (RV.fz (.tup (DL.cutD (dints w) none (some (h.length : Int))))) = _
      rw [c1]
    have x2 : pSl (pName 0) (oSome (pName 1)) (oSome (p2 DL.gSub (pCa gLen (aCons (pName 0) aNil)) (pName 1))) [some (.d (tw w)), some (.d (.int (h.length : Int)))] = some (.fz (tw c)) := by
      show some (RV.fz (.tup (DL.cutD (dints w) (some (h.length : Int)) (some (((dints w).length : Int) - (h.length : Int)))))) = _
      rw [c2]
    unfold pTup
    rw [aCons_ok x1 (aCons_ok (rs := []) x2 rfl)]
    rfl
  have q4 : B_ring_of [some (.d (tw w)), none] = .rt (.d (.tup [tw h, tw c])) [some (.d (tw w)), some (.d (.int (h.length : Int)))] := (seq_nx q1).trans ((seq_nx e).trans q3)
  unfold F_ring_of fnF
  rw [show enter 2 [.d (tw w)] = [some (.d (tw w)), none] from rfl, q4]
  rfl
end G14

set_option maxHeartbeats 4000000
namespace G14
open PySem PySem.Spec PyProof.Rows L2 DL
open FG (Red red inv pw push stk)
/-! ### periods -/
theorem range_cons (lo : Int) (n : Nat) : rangeD lo (n + 1) = .int lo :: rangeD (lo + 1) n := by
  unfold rangeD
  rw [List.range_succ_eq_map, List.map_cons, List.map_map]
  congr 1
  · simp
  · refine List.map_congr_left fun i _ => ?_
    show D.int (lo + ((i + 1 : Nat) : Int)) = .int (lo + 1 + (i : Int))
    congr 1
    omega
def perB (c : List Int) (l : Nat) : Bool := decide (c = pw (c.take l) (c.length / l))
theorem perB_iff {c : List Int} {l : Nat} (h0 : 1 ≤ l) (h1 : l ≤ c.length) : perB c l = true ↔ FG.Per c l := by
  unfold perB FG.Per
  rw [decide_eq_true_iff]
  exact ⟨fun h => ⟨h0, h1, h⟩, fun h => h.2.2⟩
theorem dints_flat (ws : List (List Int)) : (ws.map dints).flatten = dints ws.flatten := by
  unfold dints
  rw [List.map_flatten]
theorem dints_rep (w : List Int) (n : Nat) : (List.replicate n (dints w)).flatten = dints (pw w n) := by
  rw [← flat_rep, ← dints_flat, List.map_replicate]
theorem gMul_tup {w : List Int} {k : Nat} (hw : w ≠ []) (hk : 1 ≤ k) (hk2 : k ≤ 1000) (hl : w.length ≤ 1000) : gMul (tw w) (.int (k : Int)) = some (.fz (tw (pw w k))) := by
  have ne : dints w ≠ [] := fun h => hw (by
    have := congrArg List.length h
    rw [dints_length] at this
    exact List.length_eq_zero_iff.mp this)
  show (if dints w ≠ [] ∧ (2 : Int) ≤ (k : Int) ∧ (k : Int) ≤ 1000 ∧ (dints w).length ≤ 1000 then some (RV.fz (D.tup (List.replicate (k : Int).toNat (dints w)).flatten)) else if (dints w = [] ∨ (k : Int) = 1) ∧ -1000 ≤ (k : Int) ∧ (k : Int) ≤ 1000 then some (RV.fz (.tup (dints w))) else none) = _
  by_cases q : 2 ≤ k
  · rw [if_pos ⟨ne, by omega, by omega, by rw [dints_length]; exact hl⟩]
    show some (RV.fz (D.tup (List.replicate (k : Int).toNat (dints w)).flatten)) = some (RV.fz (.tup (dints (pw w k))))
    rw [← dints_rep]
    exact congrArg (fun n => some (RV.fz (D.tup (List.replicate n (dints w)).flatten))) (Int.toNat_natCast k)
  · have : k = 1 := by omega
    subst this
    rw [if_neg (by omega), if_pos ⟨.inr rfl, by decide, by decide⟩]
    simp [pw]
abbrev P_mul : FP := p2 DL.gMul (pSl (pName 0) oNone (oSome (pName 1))) (p2 gFdiv (pCa gLen (aCons (pName 0) aNil)) (pName 1))
theorem log_small {n : Nat} (h : n ≤ 1000) : n.log2 < 9000 := by
  by_cases z : n = 0
  · subst z; decide
  · exact Nat.lt_of_lt_of_le ((Nat.log2_lt z).mpr (show n < 2 ^ 10 by omega)) (by decide)
theorem mul_ok {c : List Int} {l : Nat} (h0 : 1 ≤ l) (h1 : l ≤ c.length) (hl : c.length ≤ 1000) {e : En} {i : Nat} (e0 : e[0]? = some (some (.d (tw c)))) (ei : e[i]? = some (some (.d (.int (l : Int))))) :
    p2 DL.gMul (pSl (pName 0) oNone (oSome (pName i))) (p2 gFdiv (pCa gLen (aCons (pName 0) aNil)) (pName i)) e = some (.fz (tw (pw (c.take l) (c.length / l)))) := by
  have n0 : pName 0 e = some (.fz (tw c)) := by unfold pName; rw [e0]
  have ni : pName i e = some (.fz (.int (l : Int))) := by unfold pName; rw [ei]
  have x1 : pSl (pName 0) oNone (oSome (pName i)) e = some (.fz (tw (c.take l))) := by
    unfold pSl oSome oNone
    rw [n0, ni]
    show some (RV.fz (.tup (DL.cutD (dints c) none (some (l : Int))))) = _
    rw [cut_to, ← dints_take]
  have x2 : p2 gFdiv (pCa gLen (aCons (pName 0) aNil)) (pName i) e = some (.fz (.int ((c.length / l : Nat) : Int))) := by
    refine (p2_ok (a := .fz (.int (c.length : Int))) ?_ ni).trans ?_
    · refine (pCa_ok (aCons_ok (rs := []) n0 rfl)).trans ?_
      show some (RV.fz (.int ((dints c).length : Nat))) = _
      rw [dints_length]
    · show (if (0 : Int) < (l : Int) ∧ ((l : Int)).natAbs.log2 < 9000 then some (RV.fz (.int ((c.length : Int) / (l : Int)))) else none) = _
      rw [if_pos ⟨by omega, log_small (by omega)⟩]
      rfl
  have hne : c.take l ≠ [] := fun z => by
    have := congrArg List.length z
    rw [List.length_take, List.length_nil] at this
    omega
  exact (p2_ok x1 x2).trans (gMul_tup hne (Nat.div_pos h1 h0) (by have := Nat.div_le_self c.length l; omega) (by rw [List.length_take]; omega))
theorem L4.per {c : List Int} (h : L4 c) (l n : Nat) : L4 (FG.pw (c.take l) n) := (h.take l).pw n
abbrev T_lp : FT := tVal (p2 gEq (pName 0) (p2 DL.gMul (pSl (pName 0) oNone (oSome (pName 1))) (p2 gFdiv (pCa gLen (aCons (pName 0) aNil)) (pName 1))))
abbrev B_lp : FS := sIf (tMT T_lp) (sRet (mPP (pName 1))) sNil
theorem tlp_ok {c : List Int} (hc : L4 c) {l : Nat} (h0 : 1 ≤ l) (h1 : l ≤ c.length) (hl : c.length ≤ 1000) : T_lp [some (.d (tw c)), some (.d (.int (l : Int)))] = some (perB c l) := by
  refine tVal_ok ((p2_ok (a := .fz (tw c)) rfl (mul_ok h0 h1 hl (i := 1) rfl rfl)).trans ?_)
  show gEq (tw c) (tw (pw (c.take l) (c.length / l))) = _
  rw [gEq_tw hc (hc.per l _)]
  rfl
theorem lp_loop {c : List Int} (hc : L4 c) (hn : c ≠ []) (hl : c.length ≤ 1000) : ∀ (k j : Nat) (t : Option S), 1 ≤ j → (∀ m, 1 ≤ m → m < j → ¬ FG.Per c m) → j + k = c.length + 1 → ∃ l, FG.IsLp c l ∧ forL (gNm 1) B_lp (rangeD (j : Int) k) [some (.d (tw c)), t] = .rt (.d (.int (l : Int))) [some (.d (tw c)), some (.d (.int (l : Int)))]
  | 0, j, t, hj, hno, e => absurd (FG.per_self hn) (hno c.length (List.length_pos_iff.mpr hn) (by omega))
  | k + 1, j, t, hj, hno, e => by
    have T := tlp_ok hc hj (by omega) hl
    by_cases q : FG.Per c j
    · refine ⟨j, ⟨q, fun m hm => ?_⟩, ?_⟩
      · by_cases z : m < j
        · exact absurd hm (hno m hm.1 z)
        · omega
      · rw [(perB_iff hj (by omega)).mpr q] at T
        rw [range_cons]
        unfold forL
        rw [show gNm 1 (.int (j : Int)) [some (.d (tw c)), t] = some [some (.d (tw c)), some (.d (.int (j : Int)))] from rfl]
        have : B_lp [some (.d (tw c)), some (.d (.int (j : Int)))] = .rt (.d (.int (j : Int))) [some (.d (tw c)), some (.d (.int (j : Int)))] := (if_t T).trans rfl
        simp only [this]
    · have qf : perB c j = false := by
        cases z : perB c j with
        | false => rfl
        | true => exact absurd ((perB_iff hj (by omega)).mp z) q
      rw [qf] at T
      obtain ⟨l, p, ih⟩ := lp_loop hc hn hl k (j + 1) (some (.d (.int (j : Int)))) (by omega) (fun m h1 h2 => by
        by_cases z : m = j
        · rw [z]; exact q
        · exact hno m h1 (by omega)) (by omega)
      refine ⟨l, p, ?_⟩
      rw [range_cons]
      unfold forL
      rw [show gNm 1 (.int (j : Int)) [some (.d (tw c)), t] = some [some (.d (tw c)), some (.d (.int (j : Int)))] from rfl]
      have : B_lp [some (.d (tw c)), some (.d (.int (j : Int)))] = .nx [some (.d (tw c)), some (.d (.int (j : Int)))] := (if_f T).trans rfl
      simp only [this]
      have e2 : (j : Int) + 1 = ((j + 1 : Nat) : Int) := by omega
      rw [e2]
      exact ih
theorem for_ok {fi : FI} {bind : FG} {fb : FS} {e : En} {ds : List D} {r : Fl} (h : fi e = some (ds, true)) (h2 : forL bind fb ds e = r) : sFor fi bind fb e = r := by
  unfold sFor
  rw [h]
  exact h2
theorem rgR2_ok {i j : Int} (h1 : i62 i = true) (h2 : i62 j = true) : rgR2 [.fz (.int i), .fz (.int j)] = some (rangeD i (j - i).toNat, true) := if_pos ⟨h1, h2⟩
theorem rgR1_ok {j : Int} (h : i62 j = true) : rgR1 [.fz (.int j)] = some (rangeD 0 j.toNat, true) := if_pos h
theorem i62_small {j : Int} (h : -1000000 ≤ j) (h2 : j ≤ 1000000) : i62 j = true := by
  unfold i62
  rw [decide_eq_true (by omega), decide_eq_true (by omega)]
  rfl
theorem par_fz {f g : FP} {e : En} {x y : D} {i j : Nat} (h1 : f e = some (.fz x)) (h2 : g e = some (.fz y)) (hi : i < e.length) (hj : j < e.length) : sPar i j (arFz (mPP f) (arFz (mPP g) arNil)) e = .nx ((e.set i (some (.d x))).set j (some (.d y))) := by
  unfold sPar arFz mPP
  simp only [h1, rvO, Out.arF, h2, arNil]
  exact if_pos ⟨Nat.zero_le 1, hi, hj⟩
theorem iRg_len {c : List Int} (hl : c.length ≤ 1000) {e : En} (e0 : e[0]? = some (some (.d (tw c)))) : iRg2 (aCons (pCon (.int 1)) (aCons (p2 DL.gAdd (pCa gLen (aCons (pName 0) aNil)) (pCon (.int 1))) aNil)) e = some (rangeD ((1 : Nat) : Int) c.length, true) := by
  have n0 : pName 0 e = some (.fz (tw c)) := by unfold pName; rw [e0]
  have x1 : pCa gLen (aCons (pName 0) aNil) e = some (.fz (.int (c.length : Int))) := by
    refine (pCa_ok (aCons_ok (rs := []) n0 rfl)).trans ?_
    show some (RV.fz (.int ((dints c).length : Nat))) = _
    rw [dints_length]
  have x2 : p2 DL.gAdd (pCa gLen (aCons (pName 0) aNil)) (pCon (.int 1)) e = some (.fz (.int ((c.length : Int) + 1))) := (p2_ok x1 (b := .fz (.int 1)) rfl).trans rfl
  have i2 : ((c.length : Int) + 1 - 1).toNat = c.length := by omega
  have h := rgR2_ok (i := 1) (j := (c.length : Int) + 1) (i62_small (by decide) (by decide)) (i62_small (by omega) (by omega))
  rw [i2] at h
  unfold iRg2
  rw [aCons_ok (r := .fz (.int 1)) rfl (aCons_ok (rs := []) x2 rfl), Option.bind_some]
  exact h
/-! ### root_of -/
theorem eq_empty {w : List Int} (hw : L4 w) (hn : w ≠ []) {e : En} {i : Nat} (e0 : e[i]? = some (some (.d (tw w)))) : tVal (p2 gEq (pName i) (pTup aNil)) e = some false := by
  have n0 : pName i e = some (.fz (tw w)) := by unfold pName; rw [e0]
  refine tVal_ok ((p2_ok n0 (b := .fz (.tup [])) rfl).trans ?_)
  have := gEq_tw (v := w) (w := []) hw L4.nil
  rw [decide_eq_false hn] at this
  exact this
theorem eq_empty' {e : En} {i : Nat} (e0 : e[i]? = some (some (.d (tw [])))) : tVal (p2 gEq (pName i) (pTup aNil)) e = some true := by
  have n0 : pName i e = some (.fz (tw [])) := by unfold pName; rw [e0]
  refine tVal_ok ((p2_ok n0 (b := .fz (.tup [])) rfl).trans ?_)
  have := gEq_tw (v := []) (w := []) L4.nil L4.nil
  rw [decide_eq_true rfl] at this
  exact this
theorem rt_L4 {w r : List Int} {n : Nat} (a : FG.Rt w r n) (hw : L4 w) : L4 r := by
  obtain ⟨h, c, l, k, _, rfl, _⟩ := a
  have hw : L4 (h ++ c ++ inv h) := by rw [← k.1]; exact hw
  exact (hw.l.l.app (hw.l.r.take l)).app hw.r
theorem rt_rlen {w r : List Int} {n : Nat} (a : FG.Rt w r n) : r.length ≤ w.length := by
  obtain ⟨h, c, l, k, p, rfl, _⟩ := a
  rw [k.1]
  have := p.1.2.1
  simp
  omega
/-! ### the law's rings -/
abbrev T_lr : FT := DL.tAnd (tVal (p2 gGt (pCa gLen (aCons (pName 2) aNil)) (pCon (.int 1)))) (tVal (p2 gEq (p2 gIx (pName 2) (pCon (.int 0))) (p2 DL.gSub (pCon (.int 0)) (p2 gIx (pName 2) (p1 gNeg (pCon (.int 1)))))))
abbrev B_lr : FS := sPar 1 2 (arFz (mPP (p2 DL.gAdd (pName 1) (pSl (pName 2) oNone (oSome (pCon (.int 1)))))) (arFz (mPP (pSl (pName 2) (oSome (pCon (.int 1))) (oSome (p1 gNeg (pCon (.int 1)))))) arNil))
theorem cut_in (a b : Int) (m : List Int) : DL.cutD (dints (a :: (m ++ [b]))) (some 1) (some (-1)) = dints m := by
  have l : (dints (a :: (m ++ [b]))).length = m.length + 2 := by rw [dints_length]; simp
  unfold DL.cutD
  rw [show HT.sIx (dints (a :: (m ++ [b]))).length 0 (some 1) = min 1 (dints (a :: (m ++ [b]))).length from HT.sIx_nat _ _ 1]
  rw [show HT.sIx (dints (a :: (m ++ [b]))).length (dints (a :: (m ++ [b]))).length (some (-1)) = ((-1 : Int) + ((dints (a :: (m ++ [b]))).length : Int)).toNat from rfl, l]
  rw [show min 1 (m.length + 2) = 1 by omega, show ((-1 : Int) + ((m.length + 2 : Nat) : Int)).toNat = m.length + 1 by omega, Nat.add_sub_cancel]
  show (dints (m ++ [b])).take m.length = _
  rw [← dints_take]
  simp
theorem lr_loop {w : List Int} (hw : L4 w) (hl : w.length ≤ 1000) (x : Option S) : ∀ (n : Nat) {h m : List Int}, m.length ≤ n → m ≠ [] → w = h ++ m ++ inv h → Red m → ∃ h' c, FG.Rg w h' c ∧ ∀ fu, n < fu → whileF (tMT T_lr) B_lr fu [x, some (.d (tw h)), some (.d (tw m))] = .nx [x, some (.d (tw h')), some (.d (tw c))]
  | 0, h, m, hn, hm, _, _ => absurd (List.length_eq_zero_iff.mp (by omega)) hm
  | n + 1, h, m, hn, hm, e, hr => by
    match m, hm, e, hr, hn with
    | [a], _, e, hr, hn =>
      have ha : a ≠ 0 := hw.z a (by rw [e]; simp)
      refine ⟨h, [a], ⟨e, FG.cyc_one ha⟩, fun fu hfu => ?_⟩
      obtain ⟨fu, rfl⟩ : ∃ k, fu = k + 1 := ⟨fu - 1, by omega⟩
      exact wh_f (tMT_ok rfl)
    | a :: d :: t, _, e, hr, hn =>
      obtain ⟨m, b, q⟩ : ∃ m b, d :: t = m ++ [b] := by
        rcases List.eq_nil_or_concat (d :: t) with q | ⟨m, b, q⟩
        · cases q
        · exact ⟨m, b, by rw [q, List.concat_eq_append]⟩
      rw [q] at e hr hn ⊢
      have hlen : w.length = h.length + (m.length + 2) + h.length := by rw [e]; simp [FG.inv_length]; omega
      have t1 : tVal (p2 gGt (pCa gLen (aCons (pName 2) aNil)) (pCon (.int 1))) [x, some (.d (tw h)), some (.d (tw (a :: (m ++ [b]))))] = some true := by
        show some (decide ((1 : Int) < ((dints (a :: (m ++ [b]))).length : Int))) = _
        rw [dints_length, decide_eq_true (by simp; omega)]
      have ha : Let 4 a := hw a (by rw [e]; simp)
      have hb : Let 4 b := hw b (by rw [e]; simp)
      have x2 : atI (dints (a :: (m ++ [b]))) (-1) = some (.int b) := last_int (a :: m) b
      have t2 : tVal (p2 gEq (p2 gIx (pName 2) (pCon (.int 0))) (p2 DL.gSub (pCon (.int 0)) (p2 gIx (pName 2) (p1 gNeg (pCon (.int 1)))))) [x, some (.d (tw h)), some (.d (tw (a :: (m ++ [b]))))] = some (decide (a = 0 - b)) := by
        have y1 : p2 gIx (pName 2) (pCon (.int 0)) [x, some (.d (tw h)), some (.d (tw (a :: (m ++ [b]))))] = some (.fz (.int a)) := by
          show (atI (dints (a :: (m ++ [b]))) 0).map RV.fz = _
          have := at_mid [] (m ++ [b]) a
          rw [List.nil_append] at this
          rw [show (0 : Int) = (([] : List Int).length : Int) from rfl, this]
          rfl
        have y2 : p2 gIx (pName 2) (p1 gNeg (pCon (.int 1))) [x, some (.d (tw h)), some (.d (tw (a :: (m ++ [b]))))] = some (.fz (.int b)) := by
          show (atI (dints (a :: (m ++ [b]))) (-1)).map RV.fz = _
          rw [x2]
          rfl
        have y3 : p2 DL.gSub (pCon (.int 0)) (p2 gIx (pName 2) (p1 gNeg (pCon (.int 1)))) [x, some (.d (tw h)), some (.d (tw (a :: (m ++ [b]))))] = some (.fz (.int (0 - b))) := (p2_ok (a := .fz (.int 0)) rfl y2).trans rfl
        exact tVal_ok ((p2_ok y1 y3).trans (gEq_int (by unfold Let at *; omega) (by unfold Let at *; omega)))
      have T : T_lr [x, some (.d (tw h)), some (.d (tw (a :: (m ++ [b]))))] = some (decide (a = 0 - b)) := by
        unfold T_lr DL.tAnd
        rw [t1]
        exact t2
      by_cases k : a = 0 - b
      · have k0 : a + b = 0 := by omega
        have hm : m ≠ [] := fun z => by subst z; exact hr.1 k0
        obtain ⟨h', c, g, ih⟩ := lr_loop hw hl x n (h := h ++ [a]) (m := m) (by simp at hn; omega) hm (by rw [e]; exact FG.rg_step k0) (FG.red_mid hr)
        refine ⟨h', c, g, fun fu hfu => ?_⟩
        obtain ⟨fu, rfl⟩ : ∃ k, fu = k + 1 := ⟨fu - 1, by omega⟩
        rw [decide_eq_true k] at T
        refine (wh_t (tMT_ok T) (e2 := [x, some (.d (tw (h ++ [a]))), some (.d (tw m))]) ?_).trans (ih fu (by omega))
        have y1 : pSl (pName 2) oNone (oSome (pCon (.int 1))) [x, some (.d (tw h)), some (.d (tw (a :: (m ++ [b]))))] = some (.fz (tw [a])) := by
          show some (RV.fz (.tup (DL.cutD (dints (a :: (m ++ [b]))) none (some ((1 : Nat) : Int))))) = _
          rw [cut_to]
          rfl
        have y2 : p2 DL.gAdd (pName 1) (pSl (pName 2) oNone (oSome (pCon (.int 1)))) [x, some (.d (tw h)), some (.d (tw (a :: (m ++ [b]))))] = some (.fz (tw (h ++ [a]))) := by
          refine (p2_ok (a := .fz (tw h)) rfl y1).trans ?_
          show (if (dints h).length + (dints [a]).length ≤ SZ then some (RV.fz (.tup (dints h ++ dints [a]))) else none) = _
          rw [if_pos (by rw [dints_length, dints_length]; unfold SZ; simp; omega), ← dints_append]
        have y3 : pSl (pName 2) (oSome (pCon (.int 1))) (oSome (p1 gNeg (pCon (.int 1)))) [x, some (.d (tw h)), some (.d (tw (a :: (m ++ [b]))))] = some (.fz (tw m)) := by
          show some (RV.fz (.tup (DL.cutD (dints (a :: (m ++ [b]))) (some 1) (some (-1))))) = _
          rw [cut_in]
        exact par_fz y2 y3 (by show 1 < 3; decide) (by show 2 < 3; decide)
      · refine ⟨h, a :: (m ++ [b]), ⟨e, FG.cyc_of hr (by omega)⟩, fun fu hfu => ?_⟩
        obtain ⟨fu, rfl⟩ : ∃ k, fu = k + 1 := ⟨fu - 1, by omega⟩
        rw [decide_eq_false k] at T
        exact wh_f (tMT_ok T)
theorem law_ring_ok {w : List Int} (hw : L4 w) (hr : Red w) (hn : w ≠ []) (hl : w.length ≤ 1000) : ∃ h c, FG.Rg w h c ∧ F__law_ring [.d (tw w)] = .ok (.d (.tup [tw h, tw c])) [some (.d (tw w))] := by
  obtain ⟨h, c, g, e⟩ := lr_loop hw hl (some (.d (tw w))) w.length (h := []) (m := w) (Nat.le_refl _) hn (by simp [inv]) hr
  refine ⟨h, c, g, ?_⟩
  have e := e FUEL (by unfold FUEL; omega)
  have q1 : sPar 1 2 (arFz (mPP (pTup aNil)) (arFz (mPP (pName 0)) arNil)) [some (.d (tw w)), none, none] = .nx [some (.d (tw w)), some (.d (tw [])), some (.d (tw w))] := rfl
  have q4 : B__law_ring [some (.d (tw w)), none, none] = .rt (.d (.tup [tw h, tw c])) [some (.d (tw w)), some (.d (tw h)), some (.d (tw c))] := (seq_nx q1).trans ((seq_nx e).trans (ret_fz rfl))
  unfold F__law_ring fnF
  rw [show enter 3 [.d (tw w)] = [some (.d (tw w)), none, none] from rfl, q4]
  rfl
abbrev T_pa : FT := tVal (p2 gEq (p2 DL.gMul (pSl (pName 0) oNone (oSome (pName 2))) (p2 gFdiv (pCa gLen (aCons (pName 0) aNil)) (pName 2))) (pName 0))
theorem tpa_ok {c : List Int} (hc : L4 c) {l : Nat} (h0 : 1 ≤ l) (h1 : l ≤ c.length) (hl : c.length ≤ 1000) (y : Option S) : T_pa [some (.d (tw c)), y, some (.d (.int (l : Int)))] = some (perB c l) := by
  refine tVal_ok ((p2_ok (b := .fz (tw c)) (mul_ok h0 h1 hl (i := 2) rfl rfl) rfl).trans ?_)
  show gEq (tw (pw (c.take l) (c.length / l))) (tw c) = _
  rw [gEq_tw (hc.per l _) hc]
  unfold perB
  congr 3
  rw [decide_eq_decide]
  exact ⟨Eq.symm, Eq.symm⟩
theorem pa_list {c : List Int} (hc : L4 c) (hl : c.length ≤ 1000) (y z : Option S) : ∀ (k j : Nat), 1 ≤ j → j + k = c.length + 1 → ∃ v : List Int, lcL (gNm 2) T_pa (pName 2) [some (.d (tw c)), y, z] (rangeD (j : Int) k) = some (dints v) ∧ v.length ≤ k ∧ ∀ l, FG.IsLp c l → j ≤ l → ∃ t, v = (l : Int) :: t
  | 0, j, hj, e => ⟨[], rfl, Nat.le_refl _, fun l p h => by have := p.1.2.1; omega⟩
  | k + 1, j, hj, e => by
    obtain ⟨v, ih, hv, hl2⟩ := pa_list hc hl y z k (j + 1) (by omega) (by omega)
    have T := tpa_ok hc hj (by omega) hl y
    have e2 : (j : Int) + 1 = ((j + 1 : Nat) : Int) := by omega
    rw [range_cons, e2]
    have step : lcL (gNm 2) T_pa (pName 2) [some (.d (tw c)), y, z] (.int (j : Int) :: rangeD ((j + 1 : Nat) : Int) k) = (T_pa [some (.d (tw c)), y, some (.d (.int (j : Int)))]).bind fun b => if b = true then (lcL (gNm 2) T_pa (pName 2) [some (.d (tw c)), y, z] (rangeD ((j + 1 : Nat) : Int) k)).map fun xs => D.int (j : Int) :: xs else lcL (gNm 2) T_pa (pName 2) [some (.d (tw c)), y, z] (rangeD ((j + 1 : Nat) : Int) k) := rfl
    rw [step, T, ih]
    cases q : perB c j with
    | true =>
      refine ⟨(j : Int) :: v, rfl, by rw [List.length_cons]; omega, fun l p h => ?_⟩
      have := p.2 j ((perB_iff hj (by omega)).mp q)
      have : l = j := by omega
      subst this
      exact ⟨v, rfl⟩
    | false =>
      refine ⟨v, rfl, by omega, fun l p h => hl2 l p ?_⟩
      have : l ≠ j := fun z => by
        subst z
        rw [(perB_iff hj (by omega)).mpr p.1] at q
        cases q
      omega
theorem law_part_ok {c : List Int} (hc : L4 c) (hn : c ≠ []) (hl : c.length ≤ 1000) {l : Nat} (p : FG.IsLp c l) : F__law_part [.d (tw c)] = .ok (.d (tw (c.take l))) [some (.d (tw c))] := by
  obtain ⟨v, e, hv, h⟩ := pa_list hc hl none none c.length 1 (by omega) (by omega)
  obtain ⟨t, rfl⟩ := h l p p.1.1
  have q1 : sSet 1 (mPP (pLc [2] (iRg2 (aCons (pCon (.int 1)) (aCons (p2 DL.gAdd (pCa gLen (aCons (pName 0) aNil)) (pCon (.int 1))) aNil))) (gNm 2) T_pa (pName 2))) [some (.d (tw c)), none, none] = .nx [some (.d (tw c)), some (.d (.lst (dints ((l : Int) :: t)))), none] :=
    set_fr (pLc_ok (iRg_len hl (e := [some (.d (tw c)), none, none]) rfl) e (by rw [dints_length]; unfold SZ; omega)) (by show 1 < 3; decide)
  have x1 : p2 gIx (pName 1) (pCon (.int 0)) [some (.d (tw c)), some (.d (.lst (dints ((l : Int) :: t)))), none] = some (.fz (.int (l : Int))) := by
    show (atI (dints ((l : Int) :: t)) 0).map RV.fz = _
    have := at_mid [] t (l : Int)
    rw [List.nil_append] at this
    rw [show (0 : Int) = (([] : List Int).length : Int) from rfl, this]
    rfl
  have x2 : pSl (pName 0) oNone (oSome (p2 gIx (pName 1) (pCon (.int 0)))) [some (.d (tw c)), some (.d (.lst (dints ((l : Int) :: t)))), none] = some (.fz (tw (c.take l))) := by
    unfold pSl oSome
    rw [x1]
    show some (RV.fz (.tup (DL.cutD (dints c) none (some (l : Int))))) = _
    rw [cut_to, ← dints_take]
  have q4 : B__law_part [some (.d (tw c)), none, none] = .rt (.d (tw (c.take l))) [some (.d (tw c)), some (.d (.lst (dints ((l : Int) :: t)))), none] := (seq_nx q1).trans (ret_fz x2)
  unfold F__law_part fnF
  rw [show enter 3 [.d (tw c)] = [some (.d (tw c)), none, none] from rfl, q4]
  rfl
end G14

set_option maxHeartbeats 4000000
namespace G14
open PySem PySem.Spec PyProof.Rows L2 DL
open FG (Red red inv pw push stk)
/-! ### the law's reducing -/
theorem cut_from {α : Type} (xs : List α) (n : Nat) : DL.cutD xs (some (n : Int)) none = xs.drop n := by
  unfold DL.cutD
  rw [HT.sIx_nat, HT.sIx_none]
  by_cases h : n ≤ xs.length
  · rw [Nat.min_eq_left h, List.take_of_length_le (by rw [List.length_drop]; exact Nat.le_refl _)]
  · rw [Nat.min_eq_right (by omega), Nat.sub_self, List.take_zero, List.drop_of_length_le (by omega)]
abbrev T_sp : FT := tVal (p2 gEq (p2 gIx (pName 1) (pName 4)) (p2 DL.gSub (pCon (.int 0)) (p2 gIx (pName 1) (p2 DL.gAdd (pName 4) (pCon (.int 1))))))
theorem tsp_ok (x y z : Option S) {u v : List Int} {a b : Int} (hw : L4 (u ++ a :: b :: v)) : T_sp [x, some (.d (tw (u ++ a :: b :: v))), y, z, some (.d (.int (u.length : Int)))] = some (decide (a = 0 - b)) := by
  have ha := hw a (by simp)
  have hb := hw b (by simp)
  have y1 : p2 gIx (pName 1) (pName 4) [x, some (.d (tw (u ++ a :: b :: v))), y, z, some (.d (.int (u.length : Int)))] = some (.fz (.int a)) := by
    show (atI (dints (u ++ a :: b :: v)) (u.length : Int)).map RV.fz = _
    rw [at_mid]
    rfl
  have y2 : p2 gIx (pName 1) (p2 DL.gAdd (pName 4) (pCon (.int 1))) [x, some (.d (tw (u ++ a :: b :: v))), y, z, some (.d (.int (u.length : Int)))] = some (.fz (.int b)) := by
    show (atI (dints (u ++ a :: b :: v)) ((u.length : Int) + 1)).map RV.fz = _
    have := at_mid (u ++ [a]) v b
    rw [show (u ++ [a]) ++ b :: v = u ++ a :: b :: v by simp, show (((u ++ [a]).length : Nat) : Int) = (u.length : Int) + 1 by simp] at this
    rw [this]
    rfl
  have y3 : p2 DL.gSub (pCon (.int 0)) (p2 gIx (pName 1) (p2 DL.gAdd (pName 4) (pCon (.int 1)))) [x, some (.d (tw (u ++ a :: b :: v))), y, z, some (.d (.int (u.length : Int)))] = some (.fz (.int (0 - b))) := (p2_ok (a := .fz (.int 0)) rfl y2).trans rfl
  exact tVal_ok ((p2_ok y1 y3).trans (gEq_int (by unfold Let at *; omega) (by unfold Let at *; omega)))
theorem sp_list (x y z t : Option S) : ∀ (v u : List Int), L4 (u ++ v) → (u ++ v).length ≤ 1000 → ∃ L : List Int, lcL (gNm 4) T_sp (pName 4) [x, some (.d (tw (u ++ v))), y, z, t] (rangeD (u.length : Int) (v.length - 1)) = some (dints L) ∧ L.length ≤ v.length ∧ (∀ i ∈ L, i.natAbs < 2 ^ 64) ∧
    (L = [] → Red v) ∧ (∀ k s, L = k :: s → ∃ u' a b v', u ++ v = u' ++ a :: b :: v' ∧ k = (u'.length : Int) ∧ a + b = 0)
  | [], u, _, _ => ⟨[], rfl, Nat.le_refl _, (fun _ h => nomatch h), (fun _ => trivial), (fun _ _ h => nomatch h)⟩
  | [a], u, _, _ => ⟨[], rfl, Nat.zero_le _, (fun _ h => nomatch h), (fun _ => trivial), (fun _ _ h => nomatch h)⟩
  | a :: b :: v, u, hw, hl => by
    have e : u ++ a :: b :: v = (u ++ [a]) ++ b :: v := by simp
    obtain ⟨L, h1, h2, h3, h4, h5⟩ := sp_list x y z t (b :: v) (u ++ [a]) (by rw [← e]; exact hw) (by rw [← e]; exact hl)
    rw [← e] at h1 h5
    have T := tsp_ok x y z (u := u) (v := v) (a := a) (b := b) hw
    have e2 : (a :: b :: v).length - 1 = ((b :: v).length - 1) + 1 := by simp
    have e3 : (u.length : Int) + 1 = ((u ++ [a]).length : Int) := by simp
    rw [e2, range_cons, e3]
    have step : lcL (gNm 4) T_sp (pName 4) [x, some (.d (tw (u ++ a :: b :: v))), y, z, t] (.int (u.length : Int) :: rangeD ((u ++ [a]).length : Int) ((b :: v).length - 1)) = (T_sp [x, some (.d (tw (u ++ a :: b :: v))), y, z, some (.d (.int (u.length : Int)))]).bind fun q => if q = true then (lcL (gNm 4) T_sp (pName 4) [x, some (.d (tw (u ++ a :: b :: v))), y, z, t] (rangeD ((u ++ [a]).length : Int) ((b :: v).length - 1))).map fun xs => D.int (u.length : Int) :: xs else lcL (gNm 4) T_sp (pName 4) [x, some (.d (tw (u ++ a :: b :: v))), y, z, t] (rangeD ((u ++ [a]).length : Int) ((b :: v).length - 1)) := rfl
    rw [step, T, h1]
    by_cases k : a = 0 - b
    · rw [decide_eq_true k]
      refine ⟨(u.length : Int) :: L, rfl, ?_, ?_, (fun q => nomatch q), ?_⟩
      · rw [List.length_cons, List.length_cons]; omega
      · intro i hi
        rcases List.mem_cons.mp hi with q | q
        · subst q
          rw [List.length_append] at hl
          omega
        · exact h3 i q
      · intro k' s q
        injection q with q1 q2
        exact ⟨u, a, b, v, rfl, q1.symm, by omega⟩
    · rw [decide_eq_false k]
      exact ⟨L, rfl, by rw [List.length_cons]; omega, h3, fun q => ⟨by omega, h4 q⟩, h5⟩
abbrev T_lq : FT := tVal (pName 2)
abbrev P_cut : FP := p2 DL.gAdd (pSl (pName 1) oNone (oSome (p2 gIx (pName 3) (pCon (.int 0))))) (pSl (pName 1) (oSome (p2 DL.gAdd (p2 gIx (pName 3) (pCon (.int 0))) (pCon (.int 2)))) oNone)
abbrev B_lq : FS := sSeq (sSet 3 (mPP (pLc [4] (iRg1 (aCons (p2 DL.gSub (pCa gLen (aCons (pName 1) aNil)) (pCon (.int 1))) aNil)) (gNm 4) T_sp (pName 4)))) (sSeq (sSet 2 (mPP (p2 gNe (pName 3) (pLst aNil)))) (sSet 1 (mPP (pIf (tVal (pName 2)) P_cut (pName 1)))))
theorem lq_loop (x : Option S) : ∀ (n : Nat) {w : List Int} (z : Option S), w.length ≤ n → L4 w → w.length ≤ 1000 → ∃ z', ∀ fu, n + 1 < fu → whileF (tMT T_lq) B_lq fu [x, some (.d (tw w)), some (.d (.bl true)), z, none] = .nx [x, some (.d (tw (red w))), some (.d (.bl false)), z', none]
  | n, w, z, hn, hw, hl => by
    obtain ⟨L, h1, h2, h3, h4, h5⟩ := sp_list x (some (.d (.bl true))) z none w [] hw hl
    rw [List.nil_append] at h1 h5
    have rg : iRg1 (aCons (p2 DL.gSub (pCa gLen (aCons (pName 1) aNil)) (pCon (.int 1))) aNil) [x, some (.d (tw w)), some (.d (.bl true)), z, none] = some (rangeD ((([] : List Int).length : Nat) : Int) (w.length - 1), true) := by
      have x1 : pCa gLen (aCons (pName 1) aNil) [x, some (.d (tw w)), some (.d (.bl true)), z, none] = some (.fz (.int (w.length : Int))) := by
        show some (RV.fz (.int ((dints w).length : Nat))) = _
        rw [dints_length]
      have x2 : p2 DL.gSub (pCa gLen (aCons (pName 1) aNil)) (pCon (.int 1)) [x, some (.d (tw w)), some (.d (.bl true)), z, none] = some (.fz (.int ((w.length : Int) - 1))) := (p2_ok x1 (b := .fz (.int 1)) rfl).trans rfl
      have h := rgR1_ok (j := (w.length : Int) - 1) (i62_small (by omega) (by omega))
      rw [show ((w.length : Int) - 1).toNat = w.length - 1 by omega] at h
      unfold iRg1
      rw [aCons_ok (rs := []) x2 rfl, Option.bind_some]
      exact h
    have q1 : sSet 3 (mPP (pLc [4] (iRg1 (aCons (p2 DL.gSub (pCa gLen (aCons (pName 1) aNil)) (pCon (.int 1))) aNil)) (gNm 4) T_sp (pName 4))) [x, some (.d (tw w)), some (.d (.bl true)), z, none] = .nx [x, some (.d (tw w)), some (.d (.bl true)), some (.d (.lst (dints L))), none] :=
      set_fr (pLc_ok rg h1 (by rw [dints_length]; unfold SZ; omega)) (by show 3 < 5; decide)
    have ne : gNe (.lst (dints L)) (.lst []) = some (.fz (.bl (!decide (L = [])))) := by
      have := eqb_lstI L []
      rw [dints_nil] at this
      rw [gNe_nice (x := .lst (dints L)) (y := .lst []) (nice_dints h3) rfl (by show depL _ + 1 ≤ 64; rw [dep_dints]; decide) (by decide), this]
    have q2 : sSet 2 (mPP (p2 gNe (pName 3) (pLst aNil))) [x, some (.d (tw w)), some (.d (.bl true)), some (.d (.lst (dints L))), none] = .nx [x, some (.d (tw w)), some (.d (.bl (!decide (L = [])))), some (.d (.lst (dints L))), none] :=
      set_fz ((p2_ok (a := .fz (.lst (dints L))) (b := .fr []) rfl rfl).trans ne) (by show 2 < 5; decide)
    match L, h1, h2, h3, h4, h5, q1, q2 with
    | [], h1, h2, h3, h4, h5, q1, q2 =>
      have R := FG.red_self (h4 rfl)
      refine ⟨some (.d (.lst (dints []))), fun fu hfu => ?_⟩
      obtain ⟨fu, rfl⟩ : ∃ k, fu = k + 1 + 1 := ⟨fu - 2, by omega⟩
      have q3 : sSet 1 (mPP (pIf (tVal (pName 2)) P_cut (pName 1))) [x, some (.d (tw w)), some (.d (.bl (!decide (([] : List Int) = [])))), some (.d (.lst (dints []))), none] = .nx [x, some (.d (tw w)), some (.d (.bl false)), some (.d (.lst (dints []))), none] :=
        set_fz ((pIf_f rfl).trans rfl) (by show 1 < 5; decide)
      refine (wh_t (e1 := [x, some (.d (tw w)), some (.d (.bl true)), z, none]) (tMT_ok (ft := T_lq) rfl) ((seq_nx q1).trans ((seq_nx q2).trans q3))).trans ?_
      rw [R]
      exact wh_f (tMT_ok rfl)
    | k :: s, h1, h2, h3, h4, h5, q1, q2 =>
      obtain ⟨u', a, b, v', e1, e2, e3⟩ := h5 k s rfl
      subst e2
      have hl2 : w.length = u'.length + v'.length + 2 := by rw [e1]; simp; omega
      have hw2 : L4 (u' ++ v') := fun i hi => hw i (by
        rw [e1]
        rcases List.mem_append.mp hi with q | q
        · simp [q]
        · simp [q])
      have rr : red w = red (u' ++ v') := by rw [e1]; exact FG.red_out e3
      match n, hn with
      | 0, hn => exact absurd hn (by omega)
      | n + 1, hn =>
        obtain ⟨z', ih⟩ := lq_loop x n (w := u' ++ v') (some (.d (.lst (dints ((u'.length : Int) :: s))))) (by rw [List.length_append]; omega) hw2 (by rw [List.length_append]; omega)
        refine ⟨z', fun fu hfu => ?_⟩
        obtain ⟨fu, rfl⟩ : ∃ k, fu = k + 1 := ⟨fu - 1, by omega⟩
        have ix : p2 gIx (pName 3) (pCon (.int 0)) [x, some (.d (tw w)), some (.d (.bl true)), some (.d (.lst (dints ((u'.length : Int) :: s)))), none] = some (.fz (.int (u'.length : Int))) := by
          show (atI (dints ((u'.length : Int) :: s)) 0).map RV.fz = _
          have := at_mid [] s (u'.length : Int)
          rw [List.nil_append] at this
          rw [show (0 : Int) = (([] : List Int).length : Int) from rfl, this]
          rfl
        have c1 : pSl (pName 1) oNone (oSome (p2 gIx (pName 3) (pCon (.int 0)))) [x, some (.d (tw w)), some (.d (.bl true)), some (.d (.lst (dints ((u'.length : Int) :: s)))), none] = some (.fz (tw u')) := by
          unfold pSl oSome
          rw [ix]
          show some (RV.fz (.tup (DL.cutD (dints w) none (some (u'.length : Int))))) = _
          rw [cut_to, ← dints_take, e1]
          simp
        have c2 : pSl (pName 1) (oSome (p2 DL.gAdd (p2 gIx (pName 3) (pCon (.int 0))) (pCon (.int 2)))) oNone [x, some (.d (tw w)), some (.d (.bl true)), some (.d (.lst (dints ((u'.length : Int) :: s)))), none] = some (.fz (tw v')) := by
          have i2 : p2 DL.gAdd (p2 gIx (pName 3) (pCon (.int 0))) (pCon (.int 2)) [x, some (.d (tw w)), some (.d (.bl true)), some (.d (.lst (dints ((u'.length : Int) :: s)))), none] = some (.fz (.int (((u'.length + 2 : Nat)) : Int))) := (p2_ok ix (b := .fz (.int 2)) rfl).trans (by
            show some (RV.fz (.int ((u'.length : Int) + 2))) = _
            congr 3)
          unfold pSl oSome
          rw [i2]
          show some (RV.fz (.tup (DL.cutD (dints w) (some ((u'.length + 2 : Nat) : Int)) none))) = _
          rw [cut_from, ← dints_drop, e1]
          have : (u' ++ a :: b :: v').drop (u'.length + 2) = v' := by
            rw [← List.drop_drop, List.drop_left]
            rfl
          rw [this]
        have c3 : P_cut [x, some (.d (tw w)), some (.d (.bl true)), some (.d (.lst (dints ((u'.length : Int) :: s)))), none] = some (.fz (tw (u' ++ v'))) := by
          refine (p2_ok c1 c2).trans ?_
          show (if (dints u').length + (dints v').length ≤ SZ then some (RV.fz (.tup (dints u' ++ dints v'))) else none) = _
          rw [if_pos (by rw [dints_length, dints_length]; unfold SZ; omega), ← dints_append]
        have dt : (!decide (((u'.length : Int) :: s) = [])) = true := by simp
        rw [dt] at q2
        have q3 : sSet 1 (mPP (pIf (tVal (pName 2)) P_cut (pName 1))) [x, some (.d (tw w)), some (.d (.bl true)), some (.d (.lst (dints ((u'.length : Int) :: s)))), none] = .nx [x, some (.d (tw (u' ++ v'))), some (.d (.bl true)), some (.d (.lst (dints ((u'.length : Int) :: s)))), none] :=
          set_fz ((pIf_t rfl).trans c3) (by show 1 < 5; decide)
        refine (wh_t (e1 := [x, some (.d (tw w)), some (.d (.bl true)), z, none]) (tMT_ok (ft := T_lq) rfl) ((seq_nx q1).trans ((seq_nx q2).trans q3))).trans ?_
        rw [rr]
        exact ih fu (by omega)
theorem law_reduced_ok {w : List Int} (hw : L4 w) (hl : w.length ≤ 1000) : F__law_reduced [.d (tw w)] = .ok (.d (tw (red w))) [some (.d (tw w))] := by
  obtain ⟨z', e⟩ := lq_loop (some (.d (tw w))) w.length none (Nat.le_refl _) hw hl
  have e := e FUEL (by unfold FUEL; omega)
  have q1 : sAsg (mPP (pTup (aCons (pCa gTuple (aCons (pName 0) aNil)) (aCons (pCon (.bl true)) aNil)))) (gTp 2 (gsCons (gNm 1) (gsCons (gNm 2) gsNil))) [some (.d (tw w)), none, none, none, none] = .nx [some (.d (tw w)), some (.d (tw w)), some (.d (.bl true)), none, none] := rfl
  have q4 : B__law_reduced [some (.d (tw w)), none, none, none, none] = .rt (.d (tw (red w))) [some (.d (tw w)), some (.d (tw (red w))), some (.d (.bl false)), z', none] := (seq_nx q1).trans ((seq_nx e).trans (ret_fz rfl))
  unfold F__law_reduced fnF
  rw [show enter 5 [.d (tw w)] = [some (.d (tw w)), none, none, none, none] from rfl, q4]
  rfl
/-! ### the law's products -/
abbrev B_pr : FS := sSet 1 (mPP (pFd F__law_reduced (aCons (p2 DL.gAdd (pName 1) (pCa gTuple (aCons (pName 2) aNil))) aNil)))
theorem pr_loop (x : Option S) : ∀ (ws : List (List Int)) {acc : List Int} (t : Option S), L4 acc → L4 ws.flatten → Red acc → acc.length + ws.flatten.length ≤ 1000 → ∃ t', forL (gNm 2) B_pr (ws.map tw) [x, some (.d (tw acc)), t] = .nx [x, some (.d (tw (red (acc ++ ws.flatten)))), t']
  | [], acc, t, _, _, hr, _ => ⟨t, by rw [List.flatten_nil, List.append_nil, FG.red_self hr]; rfl⟩
  | w :: ws, acc, t, ha, hw, hr, hl => by
    rw [List.flatten_cons] at hw
    rw [List.flatten_cons, List.length_append] at hl
    have l1 := FG.red_len (acc ++ w)
    rw [List.length_append] at l1
    obtain ⟨t', ih⟩ := pr_loop x ws (acc := red (acc ++ w)) (some (.d (tw w))) (ha.app hw.l).red hw.r (FG.red_red _) (by omega)
    refine ⟨t', ?_⟩
    have y1 : p2 DL.gAdd (pName 1) (pCa gTuple (aCons (pName 2) aNil)) [x, some (.d (tw acc)), some (.d (tw w))] = some (.fz (tw (acc ++ w))) := by
      show (if (dints acc).length + (dints w).length ≤ SZ then some (RV.fz (.tup (dints acc ++ dints w))) else none) = _
      rw [if_pos (by rw [dints_length, dints_length]; unfold SZ; omega), ← dints_append]
    have step : B_pr [x, some (.d (tw acc)), some (.d (tw w))] = .nx [x, some (.d (tw (red (acc ++ w)))), some (.d (tw w))] :=
      set_fz ((pFd_ok (rs := [.fz (tw (acc ++ w))]) (aCons_ok (rs := []) y1 rfl)).trans (callP_fz (law_reduced_ok (ha.app hw.l) (by rw [List.length_append]; omega)) (.inl rfl))) (by show 1 < 3; decide)
    rw [List.map_cons]
    unfold forL
    rw [show gNm 2 (tw w) [x, some (.d (tw acc)), t] = some [x, some (.d (tw acc)), some (.d (tw w))] from rfl]
    simp only [step]
    have : red (acc ++ (w :: ws).flatten) = red (red (acc ++ w) ++ ws.flatten) := by
      rw [List.flatten_cons, ← List.append_assoc]
      exact FG.red_of_eqv ((FG.eqv_red (acc ++ w)).cat (FG.eqv_refl _))
    rw [this]
    exact ih
theorem law_product_ok {ws : List (List Int)} (h : L4 ws.flatten) (hl : ws.flatten.length ≤ 1000) : F__law_product [.d (.lst (ws.map tw))] = .ok (.d (tw (red ws.flatten))) [some (.d (.lst (ws.map tw)))] := by
  obtain ⟨t', e⟩ := pr_loop (some (.d (.lst (ws.map tw)))) ws (acc := []) none L4.nil h trivial (by simpa using hl)
  rw [List.nil_append] at e
  have q1 : sSet 1 (mPP (pTup aNil)) [some (.d (.lst (ws.map tw))), none, none] = .nx [some (.d (.lst (ws.map tw))), some (.d (tw [])), none] := rfl
  have q2 : sFor (iSeq (pName 0)) (gNm 2) B_pr [some (.d (.lst (ws.map tw))), some (.d (tw [])), none] = .nx [some (.d (.lst (ws.map tw))), some (.d (tw (red ws.flatten))), t'] := for_ok rfl e
  have q3 : B__law_product [some (.d (.lst (ws.map tw))), none, none] = .rt (.d (tw (red ws.flatten))) [some (.d (.lst (ws.map tw))), some (.d (tw (red ws.flatten))), t'] := (seq_nx q1).trans ((seq_nx q2).trans (ret_fz rfl))
  unfold F__law_product fnF
  rw [show enter 3 [.d (.lst (ws.map tw))] = [some (.d (.lst (ws.map tw))), none, none] from rfl, q3]
  rfl
/-! ### exponents -/
def optI : Option Int → D
  | none => .non
  | some i => .int i
theorem in_two (n : Bool) {r s t : List Int} (hr : L4 r) (hs : L4 s) (ht : L4 t) : gInW n (tw r) (.tup [tw s, tw t]) = some (.fz (.bl (if n = true then !(decide (s = r) || decide (t = r)) else (decide (s = r) || decide (t = r))))) := by
  have n2 : (D.tup [tw s, tw t]).nice = true := by
    show ((tw s).nice && ((tw t).nice && true)) = true
    rw [nice_tw hs, nice_tw ht]
    rfl
  have d2 : (D.tup [tw s, tw t]).dep ≤ 64 := by
    show max (depL (dints s) + 1) (max (depL (dints t) + 1) 0) + 1 ≤ 64
    rw [dep_dints, dep_dints]
    decide
  have b : inb (tw r) [tw s, tw t] = (decide (s = r) || decide (t = r)) := by
    show (eqb (tw s) (tw r) || (eqb (tw t) (tw r) || false)) = _
    rw [eqb_tupI, eqb_tupI, Bool.or_false]
  show (if eqok (tw r) = true ∧ eqok (.tup [tw s, tw t]) = true then some (RV.fz (.bl (if n = true then !inb (tw r) [tw s, tw t] else inb (tw r) [tw s, tw t]))) else none) = _
  rw [if_pos ⟨eqok_nice (nice_tw hr) (dep_tw r), eqok_nice n2 d2⟩, b]
theorem xr_zero (r s : List Int) (k : Nat) : FG.xr r s k 0 = none := if_pos (.inl rfl)
/-! ### the law's exponents -/
end G14

set_option maxHeartbeats 4000000
namespace G14
open PySem PySem.Spec PyProof.Rows L2 DL
open FG (Red red inv pw push stk)
/-! ### functions from outside -/
theorem fn_rt {n : Nat} {lk : List Nat} {B : FS} {ss : List S} {s : S} {e e' : En} (q : B (enter n ss) = .rt s e) (hl : lkOk lk 0 ss = true) (ho : outs ss e = some e') : fnF n lk B ss = .ok s e' := by
  unfold fnF
  rw [if_pos hl, q]
  show Out.back ss s e = _
  unfold Out.back
  rw [ho]
theorem fn_nx {n : Nat} {lk : List Nat} {B : FS} {ss : List S} {e e' : En} (q : B (enter n ss) = .nx e) (hl : lkOk lk 0 ss = true) (ho : outs ss e = some e') : fnF n lk B ss = .ok (.d .non) e' := by
  unfold fnF
  rw [if_pos hl, q]
  show Out.back ss (.d .non) e = _
  unfold Out.back
  rw [ho]
def pr (r : List Int) (n : Nat) : D := .tup [tw r, .int (n : Int)]
theorem nice_pr {r : List Int} {n : Nat} (h : L4 r) (hn : n ≤ 10000) : (pr r n).nice = true := by
  show ((tw r).nice && ((D.int (n : Int)).nice && true)) = true
  rw [nice_tw h, nice_int (by omega)]
  rfl
theorem dep_pr (r : List Int) (n : Nat) : (pr r n).dep = 2 := by
  show max (depL (dints r) + 1) (max 0 0) + 1 = 2
  rw [dep_dints]
  rfl
theorem size_pr (r : List Int) (n : Nat) : (pr r n).size = r.length + 2 := by
  show sizeL (dints r) + 1 + (0 + 1 + 0) = _
  rw [size_dints]
theorem gEq_pr {r s : List Int} {n m : Nat} (hr : L4 r) (hs : L4 s) (hn : n ≤ 10000) (hm : m ≤ 10000) : gEq (pr r n) (pr s m) = some (.fz (.bl (decide (r = s) && decide (n = m)))) := by
  rw [gEq_nice (nice_pr hr hn) (nice_pr hs hm) (by rw [dep_pr]; decide) (by rw [dep_pr]; decide)]
  have : eqb (pr r n) (pr s m) = (decide (r = s) && decide (n = m)) := by
    show (eqb (tw r) (tw s) && (eqb (.int (n : Int)) (.int (m : Int)) && true)) = _
    rw [eqb_tupI, eqb_int, Bool.and_true]
    congr 1
    rw [decide_eq_decide]
    omega
  rw [this]
theorem gNe_pr {r s : List Int} {n m : Nat} (hr : L4 r) (hs : L4 s) (hn : n ≤ 10000) (hm : m ≤ 10000) : gNe (pr r n) (pr s m) = some (.fz (.bl (!(decide (r = s) && decide (n = m))))) := by
  have h := gEq_pr hr hs hn hm
  rw [gEq_nice (nice_pr hr hn) (nice_pr hs hm) (by rw [dep_pr]; decide) (by rw [dep_pr]; decide)] at h
  rw [gNe_nice (nice_pr hr hn) (nice_pr hs hm) (by rw [dep_pr]; decide) (by rw [dep_pr]; decide)]
  injection h with h
  injection h with h
  injection h with h
  rw [h]
/-- two told alike -/
theorem repr_two {x1 x2 : FP} {e : En} {x : D} (n : x.nice = true) (d : x.dep ≤ 50) (s : x.size ≤ 3000) (h1 : x1 e = some (.fz x)) (h2 : x2 e = some (.fz x)) : pCa gRepr (aCons (pLst (aCons x1 (aCons x2 aNil))) aNil) e = some (.fz (.str (D.lst [x, x]).py.shown)) := by
  have q : pLst (aCons x1 (aCons x2 aNil)) e = some (.fr [x, x]) := by
    unfold pLst
    rw [aCons_ok h1 (aCons_ok (rs := []) h2 rfl)]
    rfl
  refine (pCa_ok (aCons_ok (rs := []) q rfl)).trans ?_
  refine repr_lst (xs := [x, x]) ?_ ?_ ?_
  · show (x.nice && (x.nice && true)) = true
    rw [n]
    rfl
  · show max x.dep (max x.dep 0) ≤ 60
    omega
  · show x.size + 1 + (x.size + 1 + 0) ≤ 8000
    omega
theorem nice_two {x : D} (n : x.nice = true) : (D.lst [x, x]).nice = true := by
  show (x.nice && (x.nice && true)) = true
  rw [n]
  rfl
theorem shown_eq_same {x : D} (h : x.nice = true) : gEq (.str x.py.shown) (.str x.py.shown) = some (.fz (.bl true)) := by
  have n := (good_shown x h).nice
  rw [gEq_nice n n (Nat.zero_le _) (Nat.zero_le _), eqb_refl n]
theorem pFdK_ok {F : List S → Out} {g : {α : Type} → List α → List α → List α} {n : Nat} {fs fk : FA} {e : En} {rs qs us : List RV} (h : fs e = some rs) (h2 : fk e = some qs) (h3 : g rs qs = us) (h4 : us.length = n) : pFdK F g n fs fk e = callP F us := by
  unfold pFdK
  rw [h, Option.bind_some, h2, Option.bind_some]
  show (if (g rs qs).length = n then callP F (g rs qs) else none) = _
  rw [h3, if_pos h4]
/-- a word of rank r -/
def Wd (r : Int) (w : List Int) : Prop := GW r w ∧ w.length ≤ 60
theorem Wd.l4 {r : Int} {w : List Int} (h2 : r ≤ 4) (h : Wd r w) : L4 w := gw4 h2 h.1
theorem Wd.red {r : Int} {w : List Int} (h : Wd r w) : Red w := h.1.1
theorem wd_nil (r : Int) : Wd r [] := ⟨⟨trivial, fun _ h => nomatch h⟩, Nat.zero_le _⟩
theorem gw_inv {r : Int} {w : List Int} (h : GW r w) : GW r (inv w) := ⟨FG.red_inv h.1, fun i hi => by
  have := h.2 _ (FG.mem_inv.mp hi)
  unfold Let at *
  omega⟩
theorem gw_red {r : Int} {w : List Int} (h : ∀ i ∈ w, Let r i) : GW r (red w) := ⟨FG.red_red w, fun i hi => h i (FG.mem_red hi)⟩
theorem rt_mem {w b : List Int} {n : Nat} (a : FG.Rt w b n) : ∀ i ∈ b, i ∈ w := by
  obtain ⟨h, c, l, k, _, rfl, _⟩ := a
  intro i hi
  rw [k.1]
  rcases List.mem_append.mp hi with q | q
  · rcases List.mem_append.mp q with q | q
    · simp [q]
    · simp [List.mem_of_mem_take q]
  · simp [q]
theorem rt_wd {r : Int} {w b : List Int} {n : Nat} (a : FG.Rt w b n) (h : Wd r w) : Wd r b := ⟨⟨(FG.rt_root a h.red).1, fun i hi => h.1.2 i (rt_mem a i hi)⟩, Nat.le_trans (rt_rlen a) h.2⟩
section
variable {r : Int} (h1 : 1 ≤ r) (h2 : r ≤ 4)
include h1 h2
theorem ranked_ok {w : List Int} (h : Wd r w) : F_want_ranked [.d (.int r), .d (tw w)] = .ok (.d .non) [some (.d (.int r)), some (.d (tw w))] := want_ranked_ok h1 h2 (h.l4 h2) (by have := h.2; omega) (gw_wordB h.1 h.2)
theorem ranked_e {w : List Int} (h : Wd r w) {e : En} (e0 : e[0]? = some (some (.d (.int r)))) (e1 : e[1]? = some (some (.d (tw w)))) : sExpr (mPP (pFd F_want_ranked (aCons (pName 0) (aCons (pName 1) aNil)))) e = .nx e := by
  have n0 : pName 0 e = some (.fz (.int r)) := by unfold pName; rw [e0]
  have n1 : pName 1 e = some (.fz (tw w)) := by unfold pName; rw [e1]
  exact expr_fz ((pFd_ok (rs := [.fz (.int r), .fz (tw w)]) (aCons_ok n0 (aCons_ok (rs := []) n1 rfl))).trans (callP_fz (ranked_ok h1 h2 h) (.inl rfl)))
theorem two_e {w o : List Int} (h : Wd r w) (ho : Wd r o) {e : En} (e0 : e[0]? = some (some (.d (.int r)))) (e1 : e[1]? = some (some (.d (tw w)))) (e2 : e[2]? = some (some (.d (tw o)))) : sExpr (mPP (pFd F_want_two (aCons (pName 0) (aCons (pName 1) (aCons (pName 2) aNil))))) e = .nx e := by
  have n0 : pName 0 e = some (.fz (.int r)) := by unfold pName; rw [e0]
  have n1 : pName 1 e = some (.fz (tw w)) := by unfold pName; rw [e1]
  have n2 : pName 2 e = some (.fz (tw o)) := by unfold pName; rw [e2]
  have x2 : pFd F_want_word (aCons (pName 0) (aCons (pName 2) aNil)) [some (.d (.int r)), some (.d (tw w)), some (.d (tw o))] = some (.fz .non) :=
    (pFd_ok (rs := [.fz (.int r), .fz (tw o)]) rfl).trans (callP_fz (want_word_ok (ho.l4 h2) (by have := ho.2; omega) (gw_wordB ho.1 ho.2)) (.inl rfl))
  have q : F_want_two [.d (.int r), .d (tw w), .d (tw o)] = .ok (.d .non) [some (.d (.int r)), some (.d (tw w)), some (.d (tw o))] :=
    fn_nx (B := B_want_two) (n := 3) (lk := []) (e := [some (.d (.int r)), some (.d (tw w)), some (.d (tw o))]) ((seq_nx (ranked_e h1 h2 h rfl rfl)).trans (expr_fz x2)) rfl rfl
  exact expr_fz ((pFd_ok (rs := [.fz (.int r), .fz (tw w), .fz (tw o)]) (aCons_ok n0 (aCons_ok n1 (aCons_ok (rs := []) n2 rfl)))).trans (callP_fz q (.inl rfl)))
theorem want_told_ok {w : List Int} (h : w.length ≤ 60) : F_want_told [.d (tw w)] = .ok (.d (tw w)) [some (.d (tw w))] := by
  have x1 : pCa gLen (aCons (pName 0) aNil) [some (.d (tw w))] = some (.fz (.int (w.length : Int))) := by
    show some (RV.fz (.int ((dints w).length : Nat))) = _
    rw [dints_length]
  have t : tVal (p2 gGt (pName 2) (pName 1)) [some (.d (.str "letters")), some (.d (.int 60)), some (.d (.int (w.length : Int)))] = some false := by
    show some (decide ((60 : Int) < (w.length : Int))) = _
    rw [decide_eq_false (by omega)]
  have q : F_want_at_most [.d (.str "letters"), .d (.int 60), .d (.int (w.length : Int))] = .ok (.d .non) [some (.d (.str "letters")), some (.d (.int 60)), some (.d (.int (w.length : Int)))] :=
    fn_nx (B := B_want_at_most) (n := 3) (lk := []) (e := [some (.d (.str "letters")), some (.d (.int 60)), some (.d (.int (w.length : Int)))]) ((if_f t).trans rfl) rfl rfl
  exact fn_rt (B := B_want_told) (n := 1) (lk := []) (e := [some (.d (tw w))]) ((seq_nx (expr_fz ((pFd_ok (rs := [.fz (.str "letters"), .fz (.int 60), .fz (.int (w.length : Int))]) (aCons_ok (r := .fz (.str "letters")) rfl (aCons_ok (r := .fz (.int 60)) rfl (aCons_ok (rs := []) x1 rfl)))).trans (callP_fz q (.inl rfl))))).trans (ret_fz rfl)) rfl rfl
theorem power_ok {w : List Int} {k : Int} (h : Wd r w) (hk : k.natAbs ≤ 99) (hl : (red (pw (if 0 < k then w else inv w) k.natAbs)).length ≤ 60) : F_power [.d (.int r), .d (tw w), .d (.int k)] = .ok (.d (tw (red (pw (if 0 < k then w else inv w) k.natAbs)))) [some (.d (.int r)), some (.d (tw w)), some (.d (.int k))] := by
  have wl := h.2
  have po := power_of_ok (h.l4 h2) (k := k) (by omega) (by
    have : w.length * k.natAbs ≤ 60 * 99 := Nat.mul_le_mul wl hk
    omega) (by omega)
  generalize red (pw (if 0 < k then w else inv w) k.natAbs) = v at *
  have t1 : tVal (pFd F_is_integer (aCons (pName 2) aNil)) [some (.d (.int r)), some (.d (tw w)), some (.d (.int k))] = some true := tVal_ok ((pFd_ok (rs := [.fz (.int k)]) rfl).trans (callP_fz (is_integer_int k) (.inl rfl)))
  have t2 : tVal (p2 gGt (pCa gAbs (aCons (pName 2) aNil)) (pCon (.int 99))) [some (.d (.int r)), some (.d (tw w)), some (.d (.int k))] = some false := by
    show some (decide ((99 : Int) < (if k < 0 then -k else k))) = _
    rw [decide_eq_false (by split <;> omega)]
  have x1 : pFd F_power_of (aCons (pName 1) (aCons (pName 2) aNil)) [some (.d (.int r)), some (.d (tw w)), some (.d (.int k))] = some (.fz (tw v)) := (pFd_ok (rs := [.fz (tw w), .fz (.int k)]) rfl).trans (callP_fz po (.inl rfl))
  have t3 : DL.tOr (DL.tNot (tVal (pFd F_is_integer (aCons (pName 2) aNil)))) (tVal (p2 gGt (pCa gAbs (aCons (pName 2) aNil)) (pCon (.int 99)))) [some (.d (.int r)), some (.d (tw w)), some (.d (.int k))] = some false := by
    unfold DL.tOr DL.tNot
    rw [t1, t2]
    rfl
  exact fn_rt (B := B_power) (n := 3) (lk := []) (e := [some (.d (.int r)), some (.d (tw w)), some (.d (.int k))]) ((seq_nx (ranked_e h1 h2 h rfl rfl)).trans ((seq_nx ((if_f t3).trans rfl)).trans (ret_fz ((pFd_ok (rs := [.fz (tw v)]) (aCons_ok (rs := []) x1 rfl)).trans (callP_fz (want_told_ok h1 h2 hl) (.inl rfl)))))) rfl rfl
end
end G14

set_option maxHeartbeats 4000000
namespace G14
open PySem PySem.Spec PyProof.Rows L2 DL
open FG (Red red inv pw push stk)
/-! ### products of two -/
theorem fl2 (u v : List Int) : [u, v].flatten = u ++ v := by simp
theorem put2_ok {u v : List Int} (hu : L4 u) (hv : L4 v) (hl : u.length + v.length ≤ 1000) : F_put_together [.d (.lst [tw u, tw v])] = .ok (.d (tw (red (u ++ v)))) [some (.d (.lst [tw u, tw v]))] := by
  have y := put_together_ok (ws := [u, v]) (by rw [fl2]; exact hu.app hv) (by rw [fl2, List.length_append]; omega)
  rw [fl2] at y
  exact y
theorem prod2_ok {u v : List Int} (hu : L4 u) (hv : L4 v) (hl : u.length + v.length ≤ 1000) : F__law_product [.d (.lst [tw u, tw v])] = .ok (.d (tw (red (u ++ v)))) [some (.d (.lst [tw u, tw v]))] := by
  have y := law_product_ok (ws := [u, v]) (by rw [fl2]; exact hu.app hv) (by rw [fl2, List.length_append]; omega)
  rw [fl2] at y
  exact y
/-- whether two words may be exchanged -/
def cm (u v : List Int) : Bool := decide (red (u ++ v) = red (v ++ u))
theorem cm_comm (u v : List Int) : cm u v = cm v u := by
  unfold cm
  rw [decide_eq_decide]
  exact ⟨Eq.symm, Eq.symm⟩
section
variable {r : Int} (h1 : 1 ≤ r) (h2 : r ≤ 4)
include h1 h2
end
/-! ### which of a word and its undoing stands ahead -/
def lp (l : Int) : Int := if 0 < l then 2 * l - 2 else 0 - 2 * l - 1
theorem letter_place_ok {l : Int} (h : Let 4 l) : F_letter_place [.d (.int l)] = .ok (.d (.int (lp l))) [some (.d (.int l))] := by
  have : l = 1 ∨ l = 2 ∨ l = 3 ∨ l = 4 ∨ l = -1 ∨ l = -2 ∨ l = -3 ∨ l = -4 := by unfold Let at h; omega
  rcases this with rfl | rfl | rfl | rfl | rfl | rfl | rfl | rfl <;> rfl
abbrev P_lpl : FP := pFd F_letter_place (aCons (pName 1) aNil)
theorem lpl_list (x y : Option S) : ∀ w : List Int, L4 w → lcL (gNm 1) tAll P_lpl [x, y] (dints w) = some (dints (w.map lp))
  | [], _ => rfl
  | i :: w, h => by
    have ih := lpl_list x y w fun j hj => h j (List.mem_cons_of_mem _ hj)
    have e : P_lpl [x, some (.d (.int i))] = some (.fz (.int (lp i))) := (pFd_ok (rs := [.fz (.int i)]) rfl).trans (callP_fz (letter_place_ok (h i List.mem_cons_self)) (.inl rfl))
    rw [dints_cons]
    unfold lcL
    show ((P_lpl [x, some (.d (.int i))]).bind fun r => r.item.bind fun z => (lcL (gNm 1) tAll P_lpl [x, y] (dints w)).map fun xs => z :: xs) = _
    rw [e, ih]
    rfl
/-- what words are compared by -/
def kD (w : List Int) : D := .tup [.int (w.length : Int), .lst (dints (w.map lp))]
theorem order_key_ok {w : List Int} (h : L4 w) (hl : w.length ≤ 1000) : F_order_key [.d (tw w)] = .ok (.d (kD w)) [some (.d (tw w))] := by
  have e1 : pCa gLen (aCons (pName 0) aNil) [some (.d (tw w)), none] = some (.fz (.int (w.length : Int))) := by
    show some (RV.fz (.int ((dints w).length : Nat))) = _
    rw [dints_length]
  have e2 : pLc [1] (iSeq (pName 0)) (gNm 1) tAll P_lpl [some (.d (tw w)), none] = some (.fr (dints (w.map lp))) := pLc_ok (ds := dints w) (b := true) rfl (lpl_list _ _ w h) (by rw [dints_length, List.length_map]; unfold SZ; omega)
  refine fn_rt (B := B_order_key) (n := 2) (lk := []) (e := [some (.d (tw w)), none]) (ret_fz ?_) rfl rfl
  show pTup (aCons (pCa gLen (aCons (pName 0) aNil)) (aCons (pLc [1] (iSeq (pName 0)) (gNm 1) tAll P_lpl) aNil)) [some (.d (tw w)), none] = _
  unfold pTup
  rw [aCons_ok e1 (aCons_ok (rs := []) e2 rfl)]
  rfl
theorem pyL_ints : ∀ v : List Int, pyL (dints v) = v.map PyData.int
  | [] => rfl
  | i :: v => by
    show PyData.int i :: pyL (dints v) = _
    rw [pyL_ints v]
    rfl
theorem kD_py (w : List Int) : (kD w).py = PySem.W.Datum.toD ((w.length : Int), w.map lp) := by
  show PyData.tuple [PyData.int (w.length : Int), PyData.list (pyL (dints (w.map lp)))] = _
  rw [pyL_ints]
  rfl
theorem kD_lt (v w : List Int) (h : v.length = w.length) : PySem.W.dataLt (kD v).py (kD w).py = PySem.W.listLt (v.map lp) (w.map lp) := by
  rw [kD_py, kD_py, PySem.W.DatumOrd.lt_eq]
  show (if ((v.length : Int)) = (w.length : Int) then _ else _) = _
  rw [if_pos (by omega)]
  rfl
theorem alike_ints : ∀ v w : List Int, PySem.W.alikeAll (v.map PyData.int) (w.map PyData.int) = true := fun v w => PySem.W.alikeAll_map v w
theorem kD_alike (v w : List Int) : PySem.W.alike (kD v).py (kD w).py = true := by
  rw [kD_py, kD_py]
  exact PySem.W.DatumOrd.alike _ _
theorem lp_small {l : Int} (h : Let 4 l) : -20 ≤ lp l ∧ lp l ≤ 20 := by
  unfold lp Let at *
  split <;> omega
theorem kD_nice {w : List Int} (h : L4 w) (hl : w.length ≤ 1000) : (kD w).nice = true := by
  show ((D.int (w.length : Int)).nice && (niceL (dints (w.map lp)) && true)) = true
  rw [nice_int (by omega), nice_dints fun i hi => by
    obtain ⟨l, hm, rfl⟩ := List.mem_map.mp hi
    have := lp_small (h l hm)
    omega]
  rfl
theorem kD_dep (w : List Int) : (kD w).dep = 2 := by
  show max 0 (max (depL (dints (w.map lp)) + 1) 0) + 1 = 2
  rw [dep_dints]
  rfl
theorem kD_ok {v w : List Int} (hv : L4 v) (hw : L4 w) (vl : v.length ≤ 1000) (wl : w.length ≤ 1000) : okK (kD v) (kD w) = true := by
  have d1 : (kD v).py.depth ≤ 64 := by rw [D.py_depth _ (kD_nice hv vl), kD_dep]; decide
  have d2 : (kD w).py.depth ≤ 64 := by rw [D.py_depth _ (kD_nice hw wl), kD_dep]; decide
  unfold okK
  rw [D.nice_okp _ (kD_nice hv vl), D.nice_okp _ (kD_nice hw wl), decide_eq_true d1, decide_eq_true d2, kD_alike, kD_alike, kD_alike, kD_alike]
  rfl
/-- of a word and its undoing the one that stands ahead -/
def ahd (b : List Int) : List Int := if PySem.W.listLt ((inv b).map lp) (b.map lp) = true then inv b else b
theorem ahd_or (b : List Int) : ahd b = b ∨ ahd b = inv b := by
  unfold ahd
  split
  · exact .inr rfl
  · exact .inl rfl
theorem first_diff : ∀ {v w : List Int}, v.length = w.length → v ≠ w → ∃ q x u y z, v = q ++ x :: u ∧ w = q ++ y :: z ∧ x ≠ y
  | [], [], _, n => absurd rfl n
  | [], _ :: _, h, _ => by simp at h
  | _ :: _, [], h, _ => by simp at h
  | a :: v, b :: w, h, n => by
    by_cases k : a = b
    · subst k
      obtain ⟨q, x, u, y, z, e1, e2, e3⟩ := first_diff (v := v) (w := w) (by simpa using h) (fun e => n (by rw [e]))
      exact ⟨a :: q, x, u, y, z, by rw [e1]; rfl, by rw [e2]; rfl, e3⟩
    · exact ⟨[], a, v, b, w, rfl, rfl, k⟩
theorem lt_diff {x y : Int} (hne : lp x ≠ lp y) (u z : List Int) : ∀ q : List Int, PySem.W.listLt ((q ++ x :: u).map lp) ((q ++ y :: z).map lp) = decide (lp x < lp y)
  | [] => by
    show (if lp x = lp y then _ else PySem.W.DatumOrd.lt (lp x) (lp y)) = _
    rw [if_neg hne]
    rfl
  | a :: q => by
    show (if lp a = lp a then PySem.W.listLt ((q ++ x :: u).map lp) ((q ++ y :: z).map lp) else _) = _
    rw [if_pos rfl]
    exact lt_diff hne u z q
theorem lp_ne {x y : Int} (hx : Let 4 x) (hy : Let 4 y) (h : x ≠ y) : lp x ≠ lp y := by
  unfold lp Let at *
  split <;> split <;> omega
theorem ahd_inv {b : List Int} (h : L4 b) : ahd (inv b) = ahd b := by
  by_cases e : b = inv b
  · rw [← e]
  · obtain ⟨q, x, u, y, z, e1, e2, e3⟩ := first_diff (by rw [FG.inv_length]) e
    have hx := h x (by rw [e1]; simp)
    have hy := h.inv y (by rw [e2]; simp)
    have n := lp_ne hx hy e3
    unfold ahd
    rw [FG.inv_inv]
    have l1 : PySem.W.listLt (b.map lp) ((inv b).map lp) = decide (lp x < lp y) := by rw [e2, e1]; exact lt_diff n u z q
    have l2 : PySem.W.listLt ((inv b).map lp) (b.map lp) = decide (lp y < lp x) := by rw [e2, e1]; exact lt_diff n.symm z u q
    rw [l1, l2]
    by_cases c : lp x < lp y
    · rw [decide_eq_true c, decide_eq_false (by omega)]
      rfl
    · rw [decide_eq_false c, decide_eq_true (by omega)]
      rfl
theorem ahd_ahd {b : List Int} (h : L4 b) {c : List Int} (hc : c = ahd b ∨ c = inv (ahd b)) : ahd c = ahd b := by
  rcases ahd_or b with e | e
  · rw [e] at hc
    rcases hc with rfl | rfl
    · rfl
    · exact ahd_inv h
  · rw [e, FG.inv_inv] at hc
    rcases hc with rfl | rfl
    · exact ahd_inv h
    · rfl
/-! ### the law's own -/
abbrev T_ah : FT := tVal (p2 gNe (p2 gIx (pName 0) (pName 5)) (p2 gIx (pName 1) (pName 5)))
theorem ah_list (x2 x3 x4 x5 : Option S) : ∀ (v w p p' : List Int), L4 v → L4 w → p.length = p'.length → v.length = w.length → p.length + v.length ≤ 1000 → ∃ L : List Int, lcL (gNm 5) T_ah (pName 5) [some (.d (tw (p ++ v))), some (.d (tw (p' ++ w))), x2, x3, x4, x5] (rangeD (p.length : Int) v.length) = some (dints L) ∧ L.length ≤ v.length ∧
    (v ≠ w → ∃ q x u y z s, v = q ++ x :: u ∧ w = q ++ y :: z ∧ x ≠ y ∧ L = ((p.length + q.length : Nat) : Int) :: s)
  | [], [], p, p', _, _, _, _, _ => ⟨[], rfl, Nat.le_refl _, fun n => absurd rfl n⟩
  | [], _ :: _, p, p', _, _, _, h, _ => by simp at h
  | _ :: _, [], p, p', _, _, _, h, _ => by simp at h
  | a :: v, b :: w, p, p', hv, hw, hp, hl, hz => by
    have e1 : p ++ a :: v = (p ++ [a]) ++ v := by simp
    have e2 : p' ++ b :: w = (p' ++ [b]) ++ w := by simp
    obtain ⟨L, k1, k2, k3⟩ := ah_list x2 x3 x4 x5 v w (p ++ [a]) (p' ++ [b]) (fun i hi => hv i (List.mem_cons_of_mem _ hi)) (fun i hi => hw i (List.mem_cons_of_mem _ hi)) (by simp [hp]) (by simpa using hl) (by rw [List.length_cons] at hz; rw [List.length_append, List.length_singleton]; omega)
    rw [← e1, ← e2] at k1
    have ha := hv a List.mem_cons_self
    have hb := hw b List.mem_cons_self
    have T : T_ah [some (.d (tw (p ++ a :: v))), some (.d (tw (p' ++ b :: w))), x2, x3, x4, some (.d (.int (p.length : Int)))] = some (!decide (a = b)) := by
      have y1 : p2 gIx (pName 0) (pName 5) [some (.d (tw (p ++ a :: v))), some (.d (tw (p' ++ b :: w))), x2, x3, x4, some (.d (.int (p.length : Int)))] = some (.fz (.int a)) := by
        show (atI (dints (p ++ a :: v)) (p.length : Int)).map RV.fz = _
        rw [at_mid]
        rfl
      have y2 : p2 gIx (pName 1) (pName 5) [some (.d (tw (p ++ a :: v))), some (.d (tw (p' ++ b :: w))), x2, x3, x4, some (.d (.int (p.length : Int)))] = some (.fz (.int b)) := by
        show (atI (dints (p' ++ b :: w)) (p.length : Int)).map RV.fz = _
        rw [hp, at_mid]
        rfl
      exact tVal_ok ((p2_ok y1 y2).trans (gNe_int (by unfold Let at *; omega) (by unfold Let at *; omega)))
    have ec : ((p ++ [a]).length : Int) = (p.length : Int) + 1 := by simp
    rw [ec] at k1
    rw [show (a :: v).length = v.length + 1 from rfl, range_cons]
    have step : lcL (gNm 5) T_ah (pName 5) [some (.d (tw (p ++ a :: v))), some (.d (tw (p' ++ b :: w))), x2, x3, x4, x5] (.int (p.length : Int) :: rangeD ((p.length : Int) + 1) v.length) = (T_ah [some (.d (tw (p ++ a :: v))), some (.d (tw (p' ++ b :: w))), x2, x3, x4, some (.d (.int (p.length : Int)))]).bind fun q => if q = true then (lcL (gNm 5) T_ah (pName 5) [some (.d (tw (p ++ a :: v))), some (.d (tw (p' ++ b :: w))), x2, x3, x4, x5] (rangeD ((p.length : Int) + 1) v.length)).map fun xs => D.int (p.length : Int) :: xs else lcL (gNm 5) T_ah (pName 5) [some (.d (tw (p ++ a :: v))), some (.d (tw (p' ++ b :: w))), x2, x3, x4, x5] (rangeD ((p.length : Int) + 1) v.length) := rfl
    rw [step, T, k1]
    by_cases c : a = b
    · rw [decide_eq_true c]
      refine ⟨L, rfl, by omega, fun n => ?_⟩
      obtain ⟨q, x, u, y, z, s, g1, g2, g3, g4⟩ := k3 (fun e => n (by rw [c, e]))
      refine ⟨a :: q, x, u, y, z, s, by rw [g1]; rfl, by rw [g2, c]; rfl, g3, ?_⟩
      rw [g4, List.length_append, List.length_singleton, List.length_cons]
      congr 2
      omega
    · rw [decide_eq_false c]
      refine ⟨(p.length : Int) :: L, rfl, by rw [List.length_cons]; omega, fun _ => ⟨[], a, v, b, w, L, rfl, rfl, c, by simp⟩⟩
theorem ltD_ok (a b : Int) (p q : Bool) (ha : a.natAbs < 2 ^ 60) (hb : b.natAbs < 2 ^ 60) : gLtD (.tup [.int a, .bl p]) (.tup [.int b, .bl q]) = some (.fz (.bl (if a = b then (!p && q) else decide (a < b)))) := by
  have n1 : (D.tup [.int a, .bl p]).nice = true := by
    show ((D.int a).nice && (true && true)) = true
    rw [nice_int (by omega)]
    rfl
  have n2 : (D.tup [.int b, .bl q]).nice = true := by
    show ((D.int b).nice && (true && true)) = true
    rw [nice_int (by omega)]
    rfl
  have p1 : (D.tup [.int a, .bl p]).py = PySem.W.Datum.toD (a, p) := rfl
  have p2' : (D.tup [.int b, .bl q]).py = PySem.W.Datum.toD (b, q) := rfl
  have dl : PySem.W.dataLt (D.tup [.int a, .bl p]).py (D.tup [.int b, .bl q]).py = (if a = b then (!p && q) else decide (a < b)) := by
    rw [p1, p2', PySem.W.DatumOrd.lt_eq]
    rfl
  have al : PySem.W.alike (D.tup [.int a, .bl p]).py (D.tup [.int b, .bl q]).py = true := by
    rw [p1, p2']
    exact PySem.W.DatumOrd.alike _ _
  unfold gLtD
  rw [if_pos ⟨D.nice_okp _ n1, D.nice_okp _ n2, al, rfl, by
    rw [D.py_depth _ n1, D.py_depth _ n2]
    show min 1 1 ≤ 64
    decide⟩, dl]
theorem lp_abs {x y : Int} (hx : Let 4 x) (hy : Let 4 y) : (if (if x < 0 then -x else x) = (if y < 0 then -y else y) then (!decide (x < 0) && decide (y < 0)) else decide ((if x < 0 then -x else x) < (if y < 0 then -y else y))) = decide (lp x < lp y) := by
  have cx : x = 1 ∨ x = 2 ∨ x = 3 ∨ x = 4 ∨ x = -1 ∨ x = -2 ∨ x = -3 ∨ x = -4 := by unfold Let at hx; omega
  have cy : y = 1 ∨ y = 2 ∨ y = 3 ∨ y = 4 ∨ y = -1 ∨ y = -2 ∨ y = -3 ∨ y = -4 := by unfold Let at hy; omega
  rcases cx with rfl | rfl | rfl | rfl | rfl | rfl | rfl | rfl <;> rcases cy with rfl | rfl | rfl | rfl | rfl | rfl | rfl | rfl <;> rfl
end G14

set_option maxHeartbeats 4000000
namespace G14
open PySem PySem.Spec PyProof.Rows L2 DL
open FG (Red red inv pw push stk ledr Rot rotB Rgo)
/-! # Words led -/
theorem fl3 (a b c : List Int) : [a, b, c].flatten = a ++ b ++ c := by simp
theorem put3_ok {a b c : List Int} (ha : L4 a) (hb : L4 b) (hc : L4 c) (hl : a.length + b.length + c.length ≤ 1000) : F_put_together [.d (.lst [tw a, tw b, tw c])] = .ok (.d (tw (red (a ++ b ++ c)))) [some (.d (.lst [tw a, tw b, tw c]))] := by
  have h := put_together_ok (ws := [a, b, c]) (by rw [fl3]; exact (ha.app hb).app hc) (by rw [fl3, List.length_append, List.length_append]; omega)
  rw [fl3] at h
  exact h
theorem prod3_ok {a b c : List Int} (ha : L4 a) (hb : L4 b) (hc : L4 c) (hl : a.length + b.length + c.length ≤ 1000) : F__law_product [.d (.lst [tw a, tw b, tw c])] = .ok (.d (tw (red (a ++ b ++ c)))) [some (.d (.lst [tw a, tw b, tw c]))] := by
  have h := law_product_ok (ws := [a, b, c]) (by rw [fl3]; exact (ha.app hb).app hc) (by rw [fl3, List.length_append, List.length_append]; omega)
  rw [fl3] at h
  exact h
theorem lst3_ok {f g h : FP} {e : En} {x y z : D} (h1 : f e = some (.fz x)) (h2 : g e = some (.fz y)) (h3 : h e = some (.fz z)) : pLst (aCons f (aCons g (aCons h aNil))) e = some (.fr [x, y, z]) := by
  unfold pLst
  rw [aCons_ok h1 (aCons_ok h2 (aCons_ok (rs := []) h3 rfl))]
  rfl
theorem lst2_ok {f g : FP} {e : En} {x y : D} (h1 : f e = some (.fz x)) (h2 : g e = some (.fz y)) : pLst (aCons f (aCons g aNil)) e = some (.fr [x, y]) := by
  unfold pLst
  rw [aCons_ok h1 (aCons_ok (rs := []) h2 rfl)]
  rfl
theorem tup2_ok {f g : FP} {e : En} {x y : D} (h1 : f e = some (.fz x)) (h2 : g e = some (.fz y)) : pTup (aCons f (aCons g aNil)) e = some (.fz (.tup [x, y])) := by
  unfold pTup
  rw [aCons_ok h1 (aCons_ok (rs := []) h2 rfl)]
  rfl
theorem L4.ledr {w g : List Int} (hw : L4 w) (hg : L4 g) : L4 (ledr w g) := ((hg.inv.app hw).app hg).red
theorem ledr_len (w g : List Int) : (ledr w g).length ≤ w.length + 2 * g.length := by
  have := FG.red_len (inv g ++ w ++ g)
  simp only [List.length_append, FG.inv_length] at this
  show (red (inv g ++ w ++ g)).length ≤ _
  omega
theorem led_of_ok {w g : List Int} (hw : L4 w) (hg : L4 g) (hl : w.length + 2 * g.length ≤ 1000) : F_led_of [.d (tw w), .d (tw g)] = .ok (.d (tw (ledr w g))) [some (.d (tw w)), some (.d (tw g))] := by
  have x1 : pFd F_undone_of (aCons (pName 1) aNil) [some (.d (tw w)), some (.d (tw g))] = some (.fz (tw (inv g))) := (pFd_ok (rs := [.fz (tw g)]) rfl).trans (callP_fz (undone_of_ok (by omega)) (.inl rfl))
  exact fn_rt (B := B_led_of) (n := 2) (lk := []) (e := [some (.d (tw w)), some (.d (tw g))]) (ret_fz ((pFd_ok (aCons_ok (rs := []) (lst3_ok (y := tw w) (z := tw g) x1 rfl rfl) rfl)).trans (callP_fz (put3_ok hg.inv hw hg (by rw [FG.inv_length]; omega)) (.inl rfl)))) rfl rfl
/-! ### rings, the empty word, too -/
theorem ring_rgo {w h c : List Int} (hw : L4 w) (hr : Red w) (hl : w.length < 100000) (R : Rgo w h c) : F_ring_of [.d (tw w)] = .ok (.d (.tup [tw h, tw c])) [some (.d (tw w))] := by
  by_cases z : w = []
  · obtain ⟨rfl, rfl⟩ := R.uniq (.inl ⟨z, rfl, rfl⟩)
    subst z
    rfl
  · obtain ⟨h', c', R', e⟩ := ring_of_ok hw hr z hl
    obtain ⟨rfl, rfl⟩ := R.uniq (.inr R')
    exact e
theorem law_ring_rgo {w h c : List Int} (hw : L4 w) (hr : Red w) (hl : w.length ≤ 1000) (R : Rgo w h c) : F__law_ring [.d (tw w)] = .ok (.d (.tup [tw h, tw c])) [some (.d (tw w))] := by
  by_cases z : w = []
  · obtain ⟨rfl, rfl⟩ := R.uniq (.inl ⟨z, rfl, rfl⟩)
    subst z
    rfl
  · obtain ⟨h', c', R', e⟩ := law_ring_ok hw hr z hl
    obtain ⟨rfl, rfl⟩ := R.uniq (.inr R')
    exact e
theorem rgo_mem {w h c : List Int} (R : Rgo w h c) : (∀ i ∈ h, i ∈ w) ∧ ∀ i ∈ c, i ∈ w := by
  rw [R.eq]
  exact ⟨fun i hi => by simp [hi], fun i hi => by simp [hi]⟩
theorem rgo_len {w h c : List Int} (R : Rgo w h c) : w.length = 2 * h.length + c.length := by
  have := congrArg List.length R.eq
  simp only [List.length_append, FG.inv_length] at this
  omega
def trn (c : List Int) (k : Nat) : List Int := c.drop k ++ c.take k
theorem trn_len (c : List Int) {k : Nat} (h : k ≤ c.length) : (trn c k).length = c.length := by
  unfold trn
  rw [List.length_append, List.length_drop, List.length_take]
  omega
theorem trn_L4 {c : List Int} (h : L4 c) (k : Nat) : L4 (trn c k) := fun i hi => by
  rcases List.mem_append.mp hi with q | q
  · exact h i (List.mem_of_mem_drop q)
  · exact h i (List.mem_of_mem_take q)
theorem trn_ok {c : List Int} (hl : c.length ≤ 1000) {e : En} {i j : Nat} {k : Nat} (ei : e[i]? = some (some (.d (tw c)))) (ej : e[j]? = some (some (.d (.int (k : Int))))) : p2 DL.gAdd (pSl (pName i) (oSome (pName j)) oNone) (pSl (pName i) oNone (oSome (pName j))) e = some (.fz (tw (trn c k))) := by
  have n1 : pName i e = some (.fz (tw c)) := by unfold pName; rw [ei]
  have n2 : pName j e = some (.fz (.int (k : Int))) := by unfold pName; rw [ej]
  have o2 : oSome (pName j) e = some (some (k : Int)) := by unfold oSome; rw [n2]; rfl
  have x1 : pSl (pName i) (oSome (pName j)) oNone e = some (.fz (tw (c.drop k))) := by
    unfold pSl
    rw [n1, o2]
    show some (RV.fz (.tup (DL.cutD (dints c) (some (k : Int)) none))) = _
    rw [cut_from, ← dints_drop]
  have x2 : pSl (pName i) oNone (oSome (pName j)) e = some (.fz (tw (c.take k))) := by
    unfold pSl
    rw [n1, o2]
    show some (RV.fz (.tup (DL.cutD (dints c) none (some (k : Int))))) = _
    rw [cut_to, ← dints_take]
  refine (p2_ok x1 x2).trans ?_
  show (if (dints (c.drop k)).length + (dints (c.take k)).length ≤ SZ then some (RV.fz (.tup (dints (c.drop k) ++ dints (c.take k)))) else none) = _
  rw [if_pos (by rw [dints_length, dints_length, List.length_drop, List.length_take]; unfold SZ; omega), ← dints_append]
  rfl
theorem rg1_len {f : FP} {e : En} {n : Nat} (h : f e = some (.fz (.int (n : Int)))) (hn : n ≤ 1000) : iRg1 (aCons f aNil) e = some ((List.range n).map fun (i : Nat) => D.int (i : Nat), true) := by
  have x : aCons f aNil e = some [.fz (.int (n : Int))] := aCons_ok (rs := []) h rfl
  have y := rgR1_ok (j := (n : Int)) (i62_small (by omega) (by omega))
  rw [Int.toNat_natCast, rangeD0] at y
  unfold iRg1
  rw [x, Option.bind_some]
  exact y
theorem len_tw {e : En} {i : Nat} {w : List Int} (h : e[i]? = some (some (.d (tw w)))) : pCa gLen (aCons (pName i) aNil) e = some (.fz (.int (w.length : Int))) := by
  have n1 : pName i e = some (.fz (tw w)) := by unfold pName; rw [h]
  refine (pCa_ok (aCons_ok (rs := []) n1 rfl)).trans ?_
  show some (RV.fz (.int ((dints w).length : Nat))) = _
  rw [dints_length]
theorem any_bls (bs : List Bool) : gAny [.lst (bs.map bl)] = some (.fz (.bl (bs.any id))) := by
  show (bls? (bs.map bl)).map (fun bs => RV.fz (.bl (bs.any id))) = _
  rw [bls_bl]
  rfl
abbrev P_tr : FP := p2 DL.gAdd (pSl (pName 0) (oSome (pName 1)) oNone) (pSl (pName 0) oNone (oSome (pName 1)))
theorem tr_list {c : List Int} (hl : c.length ≤ 1000) : lcL (gNm 1) tAll P_tr [some (.d (tw c)), none] ((List.range c.length).map fun (i : Nat) => D.int (i : Nat)) = some ((List.range c.length).map fun k => tw (trn c k)) :=
  lcI_all (e := [some (.d (tw c)), none]) (i := 1) (by show 1 < 2; decide) _ fun k hk => ⟨_, trn_ok hl rfl rfl, rfl⟩
theorem tr_rg {c : List Int} (hl : c.length ≤ 1000) : iRg1 (aCons (pCa gLen (aCons (pName 0) aNil)) aNil) [some (.d (tw c)), none] = some ((List.range c.length).map fun (i : Nat) => D.int (i : Nat), true) := rg1_len (len_tw (e := [some (.d (tw c)), none]) (i := 0) rfl) hl
theorem tr_lc {c : List Int} (hl : c.length ≤ 1000) : pLc [1] (iRg1 (aCons (pCa gLen (aCons (pName 0) aNil)) aNil)) (gNm 1) tAll P_tr [some (.d (tw c)), none] = some (.fr ((List.range c.length).map fun k => tw (trn c k))) := pLc_fr (tr_rg hl) (tr_list hl) (by rw [List.length_map, List.length_range]; omega)
theorem tr_rt {c : List Int} (hl : c.length ≤ 1000) : B_turns_of [some (.d (tw c)), none] = .rt (.lst ((List.range c.length).map fun k => tw (trn c k))) [some (.d (tw c)), none] := ret_fr (tr_lc hl)
theorem turns_of_ok {c : List Int} (hl : c.length ≤ 1000) : F_turns_of [.d (tw c)] = .ok (.lst ((List.range c.length).map fun k => tw (trn c k))) [some (.d (tw c))] := fn_rt (B := B_turns_of) (n := 2) (lk := []) (tr_rt hl) rfl rfl
/-! ### the law's look -/
end G14

set_option maxHeartbeats 4000000
namespace G14
open PySem PySem.Spec PyProof.Rows L2 DL
open FG (Red red inv pw push stk ledr Rot rotB Rgo)
/-! # leader_of -/
abbrev P_tt : FP := pTup (aCons (pFd F_ring_of (aCons (pName 0) aNil)) (aCons (pFd F_ring_of (aCons (pName 1) aNil)) aNil))
abbrev G_tt : FG := gTp 2 (gsCons (gTp 2 (gsCons (gNm 2) (gsCons (gNm 3) gsNil))) (gsCons (gTp 2 (gsCons (gNm 4) (gsCons (gNm 5) gsNil))) gsNil))
abbrev P_so : FP := pLc [8, 9] (iEnm (aCons (pFd F_turns_of (aCons (pName 3) aNil)) aNil)) (gTp 2 (gsCons (gNm 8) (gsCons (gNm 9) gsNil))) (tVal (p2 gEq (pName 9) (pName 5))) (pName 8)
abbrev P_w1 : FP := pFd F_put_together (aCons (pLst (aCons (pName 2) (aCons (pSl (pName 3) oNone (oSome (pName 8))) (aCons (pFd F_undone_of (aCons (pName 4) aNil)) aNil)))) aNil)
abbrev P_w2 : FP := pFd F_put_together (aCons (pLst (aCons (pName 2) (aCons (pFd F_undone_of (aCons (pSl (pName 3) (oSome (pName 8)) oNone) aNil)) (aCons (pFd F_undone_of (aCons (pName 4) aNil)) aNil)))) aNil)
abbrev en (w o h c l d : List Int) (x6 x7 : Option S) : En := [some (.d (tw w)), some (.d (tw o)), some (.d (tw h)), some (.d (tw c)), some (.d (tw l)), some (.d (tw d)), x6, x7, none, none]
def spots (c d : List Int) : List Nat := (List.range c.length).filter fun k => decide (trn c k = d)
theorem so_list {w o h c l d : List Int} (c4 : L4 c) (d4 : L4 d) (cl : c.length ≤ 1000) (x6 x7 : Option S) : lcL (gTp 2 (gsCons (gNm 8) (gsCons (gNm 9) gsNil))) (tVal (p2 gEq (pName 9) (pName 5))) (pName 8) (en w o h c l d x6 x7) ((List.range c.length).map fun i => D.tup [.int (i : Nat), tw (trn c i)]) = some ((spots c d).map fun (k : Nat) => D.int (k : Nat)) :=
  lcA_some (E := fun i => [some (.d (tw w)), some (.d (tw o)), some (.d (tw h)), some (.d (tw c)), some (.d (tw l)), some (.d (tw d)), x6, x7, some (.d (.int (i : Nat))), some (.d (tw (trn c i)))]) _ (fun i _ => rfl) (fun i _ => tVal_ok ((p2_ok (a := .fz (tw (trn c i))) (b := .fz (tw d)) rfl rfl).trans (gEq_tw (trn_L4 c4 i) d4))) fun i _ _ => ⟨_, rfl, rfl⟩
theorem so_ok {w o h c l d : List Int} (c4 : L4 c) (d4 : L4 d) (cl : c.length ≤ 1000) (x6 x7 : Option S) : P_so (en w o h c l d x6 x7) = some (.fr ((spots c d).map fun (k : Nat) => D.int (k : Nat))) := by
  have x : pFd F_turns_of (aCons (pName 3) aNil) (en w o h c l d x6 x7) = some (.fr ((List.range c.length).map fun k => tw (trn c k))) := (pFd_ok (rs := [.fz (tw c)]) rfl).trans (callP_fr (turns_of_ok cl) rfl)
  have r : iEnm (aCons (pFd F_turns_of (aCons (pName 3) aNil)) aNil) (en w o h c l d x6 x7) = some ((List.range c.length).map (fun i => D.tup [.int (i : Nat), tw (trn c i)]), true) := by
    unfold iEnm
    rw [aCons_ok (rs := []) x rfl, Option.bind_some]
    show some (enumD 0 _, true) = _
    rw [enumD_range]
  refine pLc_fr r (so_list c4 d4 cl x6 x7) ?_
  rw [List.length_map]
  exact Nat.le_trans (List.length_filter_le _ _) (by rw [List.length_range]; exact cl)
theorem spots_mem {c d : List Int} {k : Nat} (h : k ∈ spots c d) : k < c.length ∧ trn c k = d := by
  obtain ⟨a, b⟩ := List.mem_filter.mp h
  exact ⟨List.mem_range.mp a, of_decide_eq_true b⟩
theorem spots_rot {c d : List Int} (hc : c ≠ []) : decide (spots c d = []) = !rotB c d := by
  cases hr : rotB c d with
  | true =>
    refine decide_eq_false fun z => ?_
    unfold rotB at hr
    simp only [Bool.and_eq_true, Bool.or_eq_true, decide_eq_true_eq, List.any_eq_true, List.mem_range] at hr
    obtain ⟨_, q | ⟨k, hk, e⟩⟩ := hr
    · exact hc q
    · have : k ∈ spots c d := List.mem_filter.mpr ⟨List.mem_range.mpr hk, decide_eq_true e⟩
      rw [z] at this
      cases this
  | false =>
    refine decide_eq_true ?_
    rcases List.eq_nil_or_concat (spots c d) with z | ⟨t, k, z⟩
    · exact z
    · have : k ∈ spots c d := by rw [z]; simp
      obtain ⟨hk, e⟩ := spots_mem this
      have : rotB c d = true := FG.rotB_iff.mpr ⟨c.take k, c.drop k, (List.take_append_drop k c).symm, e.symm⟩
      rw [hr] at this
      cases this
theorem natD (ks : List Nat) : (ks.map fun (k : Nat) => D.int (k : Nat)) = dints (ks.map fun k => ((k : Nat) : Int)) := by
  show _ = (ks.map fun k => ((k : Nat) : Int)).map D.int
  rw [List.map_map]
  rfl
theorem eq_nil_ok {ks : List Nat} (hk : ∀ k ∈ ks, k ≤ 1000) : gEq (.lst (ks.map fun (k : Nat) => D.int (k : Nat))) (.lst []) = some (.fz (.bl (decide (ks = [])))) := by
  rw [natD]
  have n1 : (D.lst (dints (ks.map fun k => ((k : Nat) : Int)))).nice = true := nice_dints fun i hi => by
    obtain ⟨k, hm, rfl⟩ := List.mem_map.mp hi
    have := hk k hm
    omega
  have d1 : (D.lst (dints (ks.map fun k => ((k : Nat) : Int)))).dep ≤ 64 := by show depL (dints _) + 1 ≤ 64; rw [dep_dints]; decide
  rw [gEq_nice n1 (y := .lst []) rfl d1 (by decide), show eqb (D.lst (dints (ks.map fun k => ((k : Nat) : Int)))) (D.lst []) = decide ((ks.map fun k => ((k : Nat) : Int)) = []) from eqb_lstI _ []]
  congr 3
  exact decide_eq_decide.mpr List.map_eq_nil_iff
theorem w1_ok {w o h c l d : List Int} (h4 : L4 h) (c4 : L4 c) (l4 : L4 l) (hl : h.length + c.length + l.length ≤ 1000) {e : En} {k : Nat} (e2 : e[2]? = some (some (.d (tw h)))) (e3 : e[3]? = some (some (.d (tw c)))) (e4 : e[4]? = some (some (.d (tw l)))) (e8 : e[8]? = some (some (.d (.int (k : Nat))))) :
    P_w1 e = some (.fz (tw (red (h ++ c.take k ++ inv l)))) := by
  have x1 : pSl (pName 3) oNone (oSome (pName 8)) e = some (.fz (tw (c.take k))) := by
    have o2 : oSome (pName 8) e = some (some (k : Int)) := by unfold oSome; rw [pN e8]; rfl
    unfold pSl
    rw [pN e3, o2]
    show some (RV.fz (.tup (DL.cutD (dints c) none (some (k : Int))))) = _
    rw [cut_to, ← dints_take]
  have x2 : pFd F_undone_of (aCons (pName 4) aNil) e = some (.fz (tw (inv l))) := call1 (pN e4) (undone_of_ok (by omega))
  exact call1r (lst3_ok (pN e2) x1 x2) (put3_ok h4 (c4.take k) l4.inv (by rw [List.length_take, FG.inv_length]; omega))
theorem L4.drop {w : List Int} (h : L4 w) (n : Nat) : L4 (w.drop n) := fun i hi => h i (List.mem_of_mem_drop hi)
theorem w2_ok {w o h c l d : List Int} (h4 : L4 h) (c4 : L4 c) (l4 : L4 l) (hl : h.length + c.length + l.length ≤ 1000) {e : En} {k : Nat} (e2 : e[2]? = some (some (.d (tw h)))) (e3 : e[3]? = some (some (.d (tw c)))) (e4 : e[4]? = some (some (.d (tw l)))) (e8 : e[8]? = some (some (.d (.int (k : Nat))))) :
    P_w2 e = some (.fz (tw (red (h ++ inv (c.drop k) ++ inv l)))) := by
  have x1 : pSl (pName 3) (oSome (pName 8)) oNone e = some (.fz (tw (c.drop k))) := by
    have o2 : oSome (pName 8) e = some (some (k : Int)) := by unfold oSome; rw [pN e8]; rfl
    unfold pSl
    rw [pN e3, o2]
    show some (RV.fz (.tup (DL.cutD (dints c) (some (k : Int)) none))) = _
    rw [cut_from, ← dints_drop]
  have x2 : pFd F_undone_of (aCons (pName 4) aNil) e = some (.fz (tw (inv l))) := call1 (pN e4) (undone_of_ok (by omega))
  have x3 := call1 x1 (undone_of_ok (w := c.drop k) (by rw [List.length_drop]; omega))
  exact call1r (lst3_ok (pN e2) x3 x2) (put3_ok h4 (c4.drop k).inv l4.inv (by rw [FG.inv_length, List.length_drop, FG.inv_length]; omega))
def ways (h c l : List Int) (ks : List Nat) : List (List Int) := (ks.map fun k => red (h ++ c.take k ++ inv l)) ++ ks.map fun k => red (h ++ inv (c.drop k) ++ inv l)
theorem w1_list {w o h c l d : List Int} (h4 : L4 h) (c4 : L4 c) (l4 : L4 l) (hl : h.length + c.length + l.length ≤ 1000) (x6 x7 : Option S) (ks : List Nat) : lcL (gNm 8) tAll P_w1 (en w o h c l d x6 x7) (ks.map fun (k : Nat) => D.int (k : Nat)) = some (ks.map fun k => tw (red (h ++ c.take k ++ inv l))) :=
  lcI_all (e := en w o h c l d x6 x7) (i := 8) (by show 8 < 10; decide) ks fun k _ => ⟨_, w1_ok (w := w) (o := o) (d := d) h4 c4 l4 hl rfl rfl rfl rfl, rfl⟩
theorem w2_list {w o h c l d : List Int} (h4 : L4 h) (c4 : L4 c) (l4 : L4 l) (hl : h.length + c.length + l.length ≤ 1000) (x6 x7 : Option S) (ks : List Nat) : lcL (gNm 8) tAll P_w2 (en w o h c l d x6 x7) (ks.map fun (k : Nat) => D.int (k : Nat)) = some (ks.map fun k => tw (red (h ++ inv (c.drop k) ++ inv l))) :=
  lcI_all (e := en w o h c l d x6 x7) (i := 8) (by show 8 < 10; decide) ks fun k _ => ⟨_, w2_ok (w := w) (o := o) (d := d) h4 c4 l4 hl rfl rfl rfl rfl, rfl⟩
theorem okSort_tw {gs : List (List Int)} (h : ∀ g ∈ gs, L4 g ∧ g.length ≤ 1000) : okSort F_order_key (gs.map tw) = true := by
  obtain ⟨k, hk⟩ : ∃ k : D → D, ∀ g, k (tw g) = kD g := ⟨fun x => match x with
    | .tup xs => kD ((ints? xs).getD [])
    | _ => .non, fun g => by
      show kD ((ints? (dints g)).getD []) = _
      have : ∀ g : List Int, ints? (dints g) = some g := fun g => by
        induction g with
        | nil => rfl
        | cons i g ih =>
          show (ints? (dints g)).map (i :: ·) = _
          rw [ih]
          rfl
      rw [this]
      rfl⟩
  refine okSort_of (k := k) (fun d hd => ?_) fun d hd e he => ?_
  · obtain ⟨g, hg, rfl⟩ := List.mem_map.mp hd
    obtain ⟨g4, gl⟩ := h g hg
    rw [hk]
    exact ⟨flat_dints g, ⟨_, order_key_ok g4 gl⟩, D.nice_okp _ (kD_nice g4 gl), by rw [D.py_depth _ (kD_nice g4 gl), kD_dep]; decide, rfl⟩
  · obtain ⟨g, hg, rfl⟩ := List.mem_map.mp hd
    obtain ⟨g', hg', rfl⟩ := List.mem_map.mp he
    rw [hk, hk]
    exact kD_alike g g'
/-- a way leads -/
def Led (w o g : List Int) : Prop := Red g ∧ (∀ i ∈ g, i ∈ w ∨ -i ∈ w ∨ i ∈ o ∨ -i ∈ o) ∧ g.length ≤ w.length + o.length ∧ ledr w g = o
theorem way_led {w o h c l d g : List Int} (ro : Red o) (R : Rgo w h c) (R' : Rgo o l d) (hg : g ∈ ways h c l (spots c d)) : Led w o g := by
  have key : ∀ k ∈ spots c d, w = h ++ (c.take k ++ c.drop k) ++ inv h ∧ o = l ++ (c.drop k ++ c.take k) ++ inv l := fun k hk => by
    refine ⟨by rw [List.take_append_drop]; exact R.eq, ?_⟩
    have := (spots_mem hk).2
    rw [show c.drop k ++ c.take k = d from this]
    exact R'.eq
  have hm := rgo_mem R
  have hm' := rgo_mem R'
  have l1 := rgo_len R
  have l2 := rgo_len R'
  rcases List.mem_append.mp hg with q | q
  · obtain ⟨k, hk, rfl⟩ := List.mem_map.mp q
    obtain ⟨e1, e2⟩ := key k hk
    refine ⟨FG.red_red _, fun i hi => ?_, ?_, ?_⟩
    · rcases List.mem_append.mp (FG.mem_red hi) with a | a
      · rcases List.mem_append.mp a with a | a
        · exact .inl (hm.1 i a)
        · exact .inl (hm.2 i (List.mem_of_mem_take a))
      · exact .inr (.inr (.inr (hm'.1 _ (FG.mem_inv.mp a))))
    · have := FG.red_len (h ++ c.take k ++ inv l)
      simp only [List.length_append, FG.inv_length, List.length_take] at this
      omega
    · rw [e1]
      rw [e2] at ro
      rw [FG.way_on ro, ← e2]
  · obtain ⟨k, hk, rfl⟩ := List.mem_map.mp q
    obtain ⟨e1, e2⟩ := key k hk
    refine ⟨FG.red_red _, fun i hi => ?_, ?_, ?_⟩
    · rcases List.mem_append.mp (FG.mem_red hi) with a | a
      · rcases List.mem_append.mp a with a | a
        · exact .inl (hm.1 i a)
        · exact .inr (.inl (hm.2 _ (List.mem_of_mem_drop (FG.mem_inv.mp a))))
      · exact .inr (.inr (.inr (hm'.1 _ (FG.mem_inv.mp a))))
    · have := FG.red_len (h ++ inv (c.drop k) ++ inv l)
      simp only [List.length_append, FG.inv_length, List.length_drop] at this
      omega
    · rw [e1]
      rw [e2] at ro
      rw [FG.way_back ro, ← e2]
theorem Led.l4 {w o g : List Int} (h : Led w o g) (hw : L4 w) (ho : L4 o) : L4 g := fun i hi => by
  have n : ∀ j, Let 4 (-j) → Let 4 j := fun j hj => by unfold Let at *; omega
  rcases h.2.1 i hi with q | q | q | q
  · exact hw i q
  · exact n i (hw _ q)
  · exact ho i q
  · exact n i (ho _ q)
theorem Led.gw {r : Int} {w o g : List Int} (h : Led w o g) (hw : GW r w) (ho : GW r o) : GW r g := ⟨h.1, fun i hi => by
  have n : ∀ j, Let r (-j) → Let r j := fun j hj => by unfold Let at *; omega
  rcases h.2.1 i hi with q | q | q | q
  · exact hw.2 i q
  · exact n i (hw.2 _ q)
  · exact ho.2 i q
  · exact n i (ho.2 _ q)⟩
theorem led_nil : Led [] [] [] := ⟨trivial, (fun _ h => nomatch h), Nat.zero_le _, rfl⟩
/-- what leader_of tells: none, or a word that leads -/
def Told (w o : List Int) (due : Bool) (x : D) : Prop := (due = false ∧ x = .non) ∨ (due = true ∧ ∃ g, x = tw g ∧ Led w o g)
abbrev S_1 : FS := sAsg (mPP P_tt) G_tt
theorem s1_ok {w o h c l d : List Int} (hw : L4 w) (ho : L4 o) (rw' : Red w) (ro : Red o) (wl : w.length ≤ 300) (ol : o.length ≤ 300) (R : Rgo w h c) (R' : Rgo o l d) : S_1 [some (.d (tw w)), some (.d (tw o)), none, none, none, none, none, none, none, none] = .nx (en w o h c l d none none) := by
  have y1 : pFd F_ring_of (aCons (pName 0) aNil) [some (.d (tw w)), some (.d (tw o)), none, none, none, none, none, none, none, none] = some (.fz (.tup [tw h, tw c])) := call1 (a := tw w) rfl (ring_rgo hw rw' (by omega) R)
  have y2 : pFd F_ring_of (aCons (pName 1) aNil) [some (.d (tw w)), some (.d (tw o)), none, none, none, none, none, none, none, none] = some (.fz (.tup [tw l, tw d])) := call1 (a := tw o) rfl (ring_rgo ho ro (by omega) R')
  exact asg_fz (tup2_ok y1 y2) rfl
theorem leader_of_ok {w o h c l d : List Int} (hw : L4 w) (ho : L4 o) (rw' : Red w) (ro : Red o) (wl : w.length ≤ 300) (ol : o.length ≤ 300) (R : Rgo w h c) (R' : Rgo o l d) :
    ∃ x, Told w o (rotB c d) x ∧ F_leader_of [.d (tw w), .d (tw o)] = .ok (.d x) [some (.d (tw w)), some (.d (tw o))] := by
  have c4 : L4 c := fun i hi => hw i ((rgo_mem R).2 i hi)
  have h4 : L4 h := fun i hi => hw i ((rgo_mem R).1 i hi)
  have d4 : L4 d := fun i hi => ho i ((rgo_mem R').2 i hi)
  have l4 : L4 l := fun i hi => ho i ((rgo_mem R').1 i hi)
  have cl := rgo_len R
  have dl := rgo_len R'
  have q1 := s1_ok hw ho rw' ro wl ol R R'
  have t2 : tVal (p2 gNe (pCa gLen (aCons (pName 3) aNil)) (pCa gLen (aCons (pName 5) aNil))) (en w o h c l d none none) = some (!decide (c.length = d.length)) := by
    refine tVal_ok ((p2_ok (len_tw (e := en w o h c l d none none) (i := 3) rfl) (len_tw (e := en w o h c l d none none) (i := 5) rfl)).trans ((gNe_int (by omega) (by omega)).trans ?_))
    congr 4
    exact decide_eq_decide.mpr (by omega)
  by_cases e2 : c.length = d.length
  rotate_left
  · rw [decide_eq_false e2] at t2
    refine ⟨.non, .inl ⟨?_, rfl⟩, fn_rt (B := B_leader_of) (n := 10) (lk := []) ((seq_nx q1).trans (seq_rt ((if_t t2).trans (ret_fz rfl)))) rfl rfl⟩
    unfold rotB
    rw [decide_eq_false e2]
    rfl
  rw [decide_eq_true e2] at t2
  have t3 : tVal (p2 gEq (pName 3) (pTup aNil)) (en w o h c l d none none) = some (decide (c = [])) := tVal_ok ((p2_ok (a := .fz (tw c)) (b := .fz (tw [])) rfl rfl).trans (gEq_tw c4 L4.nil))
  by_cases e3 : c = []
  · rw [decide_eq_true e3] at t3
    have dn : d = [] := List.eq_nil_of_length_eq_zero (by rw [← e2, e3]; rfl)
    have wn : w = [] := by
      rcases R with ⟨z, _⟩ | z
      · exact z
      · exact absurd e3 z.2.1
    have on : o = [] := by
      rcases R' with ⟨z, _⟩ | z
      · exact z
      · exact absurd dn z.2.1
    refine ⟨tw [], .inr ⟨?_, [], rfl, by rw [wn, on]; exact led_nil⟩, fn_rt (B := B_leader_of) (n := 10) (lk := []) ((seq_nx q1).trans ((seq_nx ((if_f t2).trans rfl)).trans (seq_rt ((if_t t3).trans (ret_fz rfl))))) rfl rfl⟩
    rw [e3, dn]
    exact FG.rotB_iff.mpr (.refl _)
  rw [decide_eq_false e3] at t3
  have q4 : sSet 6 (mPP P_so) (en w o h c l d none none) = .nx (en w o h c l d (some (.d (.lst ((spots c d).map fun (k : Nat) => D.int (k : Nat))))) none) := set_fr (so_ok c4 d4 (by omega) none none) (by show 6 < 10; decide)
  have sk : ∀ k ∈ spots c d, k ≤ 1000 := fun k hk => by
    have := (spots_mem hk).1
    omega
  have sl : (spots c d).length ≤ 300 := Nat.le_trans (List.length_filter_le _ _) (by rw [List.length_range]; omega)
  have t5 : tVal (p2 gEq (pName 6) (pLst aNil)) (en w o h c l d (some (.d (.lst ((spots c d).map fun (k : Nat) => D.int (k : Nat))))) none) = some (!rotB c d) := by
    refine tVal_ok ((p2_ok (a := .fz (.lst ((spots c d).map fun (k : Nat) => D.int (k : Nat)))) (b := .fr []) rfl rfl).trans ((eq_nil_ok sk).trans ?_))
    rw [spots_rot e3]
  cases hr : rotB c d with
  | false =>
    rw [hr] at t5
    exact ⟨.non, .inl ⟨rfl, rfl⟩, fn_rt (B := B_leader_of) (n := 10) (lk := []) ((seq_nx q1).trans ((seq_nx ((if_f t2).trans rfl)).trans ((seq_nx ((if_f t3).trans rfl)).trans ((seq_nx q4).trans (seq_rt ((if_t t5).trans (ret_fz rfl))))))) rfl rfl⟩
  | true =>
    rw [hr] at t5
    have x6 := pLc_fr (vs := [8]) (fi := iSeq (pName 6)) (b := true) (e := en w o h c l d (some (.d (.lst ((spots c d).map fun (k : Nat) => D.int (k : Nat))))) none) rfl (w1_list (w := w) (o := o) (d := d) h4 c4 l4 (by omega) _ none (spots c d)) (by rw [List.length_map]; omega)
    have q6 := setO_fr (i := 7) x6 (by show 7 < 10; decide)
    have x7 := pLc_fr (vs := [8]) (fi := iSeq (pName 6)) (b := true) (e := en w o h c l d (some (.d (.lst ((spots c d).map fun (k : Nat) => D.int (k : Nat))))) (some (.lst ((spots c d).map fun k => tw (red (h ++ c.take k ++ inv l)))))) rfl (w2_list (w := w) (o := o) (d := d) h4 c4 l4 (by omega) _ _ (spots c d)) (by rw [List.length_map]; omega)
    have q7 := ext_ok (i := 7) rfl x7 (by rw [List.length_map, List.length_map]; omega)
    have ew : ((spots c d).map fun k => tw (red (h ++ c.take k ++ inv l))) ++ ((spots c d).map fun k => tw (red (h ++ inv (c.drop k) ++ inv l))) = (ways h c l (spots c d)).map tw := by
      unfold ways
      rw [List.map_append, List.map_map, List.map_map]
      rfl
    rw [ew] at q7
    have ne : (ways h c l (spots c d)).map tw ≠ [] := fun z => by
      have z := List.map_eq_nil_iff.mp z
      have z := (List.append_eq_nil_iff.mp z).1
      have z := List.map_eq_nil_iff.mp z
      have := spots_rot (c := c) (d := d) e3
      rw [decide_eq_true z, hr] at this
      cases this
    have led : ∀ g ∈ ways h c l (spots c d), Led w o g := fun g hg => way_led ro R R' hg
    have ok : okSort F_order_key ((ways h c l (spots c d)).map tw) = true := okSort_tw fun g hg => ⟨(led g hg).l4 hw ho, by have := (led g hg).2.2.1; omega⟩
    obtain ⟨y, hy, ey⟩ := sort_first (F := F_order_key) (fa := pName 7) (r := .ow ((ways h c l (spots c d)).map tw)) (e := en w o h c l d (some (.d (.lst ((spots c d).map fun (k : Nat) => D.int (k : Nat))))) (some (.lst ((ways h c l (spots c d)).map tw)))) rfl rfl ok ne
    obtain ⟨g, hg, rfl⟩ := List.mem_map.mp hy
    exact ⟨tw g, .inr ⟨rfl, g, rfl, led g hg⟩, fn_rt (B := B_leader_of) (n := 10) (lk := []) ((seq_nx q1).trans ((seq_nx ((if_f t2).trans rfl)).trans ((seq_nx ((if_f t3).trans rfl)).trans ((seq_nx q4).trans ((seq_nx ((if_f t5).trans rfl)).trans ((seq_nx q6).trans ((seq_nx q7).trans (ret_fz ey)))))))) rfl rfl⟩
end G14

set_option maxHeartbeats 4000000
namespace G14
open PySem PySem.Spec PyProof.Rows L2 DL
open FG (Red red inv pw push stk ledr Rot rotB Rgo turn)
/-! # words of one length, sorted -/
def leW (v w : List Int) : Bool := !PySem.W.listLt (w.map lp) (v.map lp)
def sortW (U : List (List Int)) : List (List Int) := U.mergeSort leW
theorem sortW_perm (U : List (List Int)) : (sortW U).Perm U := List.mergeSort_perm U leW
def Same (n : Nat) (U : List (List Int)) : Prop := ∀ v ∈ U, L4 v ∧ v.length = n
theorem keyF_tw {v : List Int} (h : L4 v) (hl : v.length ≤ 1000) : keyF F_order_key (tw v) = kD v := by
  unfold keyF
  rw [order_key_ok h hl]
theorem prog_sort {n : Nat} {U : List (List Int)} (hn : n ≤ 1000) (h : Same n U) : ((U.map tw).mergeSort (PySem.W.dataLe false fun d => (keyF F_order_key d).py)) = (sortW U).map tw := by
  refine (PySem.W.sort_maps (r := leW) tw fun v hv w hw => ?_).symm
  show leW v w = !PySem.W.dataLt (keyF F_order_key (tw w)).py (keyF F_order_key (tw v)).py
  obtain ⟨v4, vl⟩ := h v hv
  obtain ⟨w4, wl⟩ := h w hw
  rw [keyF_tw v4 (by omega), keyF_tw w4 (by omega), kD_lt w v (by omega)]
  rfl
/-- the law's items: places, turn -/
def it (v : List Int) : D := .tup [.lst (dints (v.map lp)), tw v]
theorem it_py (v : List Int) : (it v).py = PySem.W.Datum.toD ((v.map lp, (⟨v⟩ : PySem.W.Tup Int))) := by
  show PyData.tuple [PyData.list (pyL (dints (v.map lp))), PyData.tuple (pyL (dints v))] = _
  rw [pyL_ints, pyL_ints]
  rfl
theorem listLt_self : ∀ v : List Int, PySem.W.listLt v v = false
  | [] => rfl
  | a :: v => by
    unfold PySem.W.listLt
    rw [if_pos rfl]
    exact listLt_self v
theorem lp_inj {v w : List Int} (hv : L4 v) (hw : L4 w) (hl : v.length = w.length) (h : v.map lp = w.map lp) : v = w := by
  by_cases e : v = w
  · exact e
  · exfalso
    obtain ⟨q, x, u, y, z, rfl, rfl, hne⟩ := first_diff hl e
    have hx := hv x (by simp)
    have hy := hw y (by simp)
    rw [List.map_append, List.map_append] at h
    have h := List.append_cancel_left h
    rw [List.map_cons, List.map_cons] at h
    injection h with h _
    exact lp_ne hx hy hne h
theorem law_sort {n : Nat} {U : List (List Int)} (h : Same n U) : (U.map it).mergeSort (PySem.W.dataLe false D.py) = (sortW U).map it := by
  refine (PySem.W.sort_maps (r := leW) it fun v hv w hw => ?_).symm
  show leW v w = !PySem.W.dataLt (it w).py (it v).py
  obtain ⟨v4, vl⟩ := h v hv
  obtain ⟨w4, wl⟩ := h w hw
  rw [it_py, it_py, PySem.W.DatumOrd.lt_eq]
  show leW v w = !(if w.map lp = v.map lp then PySem.W.listLt w v else PySem.W.listLt (w.map lp) (v.map lp))
  unfold leW
  by_cases e : w.map lp = v.map lp
  · rw [if_pos e, e, lp_inj w4 v4 (by omega) e, listLt_self, listLt_self]
  · rw [if_neg e]
theorem sortW_mem {U : List (List Int)} {v : List Int} : v ∈ sortW U ↔ v ∈ U := (sortW_perm U).mem_iff
theorem sortW_same {n : Nat} {U : List (List Int)} (h : Same n U) : Same n (sortW U) := fun v hv => h v (sortW_mem.mp hv)
theorem sortW_pair {n : Nat} {U : List (List Int)} (hn : n ≤ 1000) (h : Same n U) (nd : U.Nodup) : (sortW U).Pairwise fun v w => PySem.W.listLt (v.map lp) (w.map lp) = true := by
  have p := PySem.W.sort_pairwise (PySem.W.sortLe_total (PyProof.Rows.listOrd PyProof.Rows.itemOrd) false fun d => PySem.W.keyToks (keyF F_order_key d).py) (U.map tw)
  have e : ((U.map tw).mergeSort (PySem.W.dataLe false fun d => (keyF F_order_key d).py)) = (sortW U).map tw := prog_sort hn h
  have p : ((U.map tw).mergeSort (PySem.W.dataLe false fun d => (keyF F_order_key d).py)).Pairwise (fun a b => PySem.W.dataLe false (fun d => (keyF F_order_key d).py) a b = true) := p
  rw [e, List.pairwise_map] at p
  have nd' : (sortW U).Pairwise (· ≠ ·) := (sortW_perm U).nodup_iff.mpr nd
  have both := (List.pairwise_and_iff.mpr ⟨p, nd'⟩)
  refine List.Pairwise.imp_of_mem (fun {v w} hv hw q => ?_) both
  obtain ⟨v4, vl⟩ := sortW_same h v hv
  obtain ⟨w4, wl⟩ := sortW_same h w hw
  have q1 : (!PySem.W.dataLt (keyF F_order_key (tw w)).py (keyF F_order_key (tw v)).py) = true := q.1
  rw [keyF_tw v4 (by omega), keyF_tw w4 (by omega), kD_lt w v (by omega)] at q1
  obtain ⟨s, x, u, y, z, rfl, rfl, hne⟩ := first_diff (show v.length = w.length by omega) q.2
  have hx := v4 x (by simp)
  have hy := w4 y (by simp)
  have ne := lp_ne hx hy hne
  rw [lt_diff (fun q => ne q.symm)] at q1
  rw [lt_diff ne]
  simp only [Bool.not_eq_true', decide_eq_false_iff_not] at q1
  exact decide_eq_true (by omega)
/-! ### unlike turns -/
theorem uniq_turns {c : List Int} {l : Nat} (hc : c ≠ []) (h : FG.IsLp c l) : ∀ m, m ≤ c.length → uniq ((List.range m).map (turn c)) = (List.range (min m l)).map (turn c)
  | 0, _ => by rw [Nat.zero_min]; rfl
  | m + 1, hm => by
    have ih := uniq_turns hc h m (by omega)
    rw [List.range_succ, List.map_append]
    show uniq ((List.range m).map (turn c) ++ [turn c m]) = _
    rw [uniq_snoc, ih]
    unfold addU
    by_cases q : m < l
    · rw [Nat.min_eq_left (by omega), Nat.min_eq_left (by omega), List.range_succ, List.map_append]
      rw [if_neg]
      · rfl
      · intro z
        obtain ⟨k, hk, e⟩ := List.mem_map.mp z
        exact FG.turn_ne hc h (List.mem_range.mp hk) q e
    · rw [Nat.min_eq_right (by omega), Nat.min_eq_right (by omega), if_pos]
      refine List.mem_map.mpr ⟨m % l, List.mem_range.mpr (Nat.mod_lt m h.1.1), ?_⟩
      exact (FG.turn_mod hc h.1 (by omega)).symm
theorem uniq_nodup (ws : List (List Int)) : (uniq ws).Nodup := by
  have : ∀ (ws acc : List (List Int)), acc.Nodup → (ws.foldl addU acc).Nodup := by
    intro ws
    induction ws with
    | nil => exact fun acc h => h
    | cons w ws ih =>
      intro acc h
      rw [List.foldl_cons]
      refine ih _ ?_
      unfold addU
      split
      · exact h
      · rename_i q
        rw [List.nodup_append]
        refine ⟨h, by simp, fun a ha b hb z => q ?_⟩
        rw [List.mem_singleton.mp hb] at z
        rw [← z]
        exact ha
  exact this ws [] List.nodup_nil
theorem uniq_mem {ws : List (List Int)} {v : List Int} : v ∈ uniq ws ↔ v ∈ ws := by
  have : ∀ (ws acc : List (List Int)), v ∈ ws.foldl addU acc ↔ v ∈ acc ∨ v ∈ ws := by
    intro ws
    induction ws with
    | nil => exact fun acc => by simp
    | cons w ws ih =>
      intro acc
      rw [List.foldl_cons, ih]
      have : v ∈ addU acc w ↔ v ∈ acc ∨ v = w := by
        unfold addU
        split
        · rename_i q
          exact ⟨.inl, fun h => h.elim id fun z => z ▸ q⟩
        · rw [List.mem_append, List.mem_singleton]
      rw [this, List.mem_cons, or_assoc]
  have q := this ws []
  simp only [List.not_mem_nil, false_or] at q
  exact q
theorem trn_turn (c : List Int) (k : Nat) : trn c k = turn c k := rfl
/-- the turns of a core, unlike ones, sorted -/
def TL (c : List Int) : List (List Int) := if c = [] then [[]] else sortW (uniq ((List.range c.length).map (turn c)))
theorem tl_same {c : List Int} (h : L4 c) : Same c.length (TL c) := by
  unfold TL
  split
  · rename_i z
    intro v hv
    rw [List.mem_singleton.mp hv, z]
    exact ⟨L4.nil, rfl⟩
  · refine sortW_same fun v hv => ?_
    obtain ⟨k, hk, rfl⟩ := List.mem_map.mp (uniq_mem.mp hv)
    exact ⟨trn_L4 h k, trn_len c (Nat.le_of_lt (List.mem_range.mp hk))⟩
theorem tl_mem {c v : List Int} (h : v ∈ TL c) : ∃ k, k ≤ c.length ∧ v = turn c k := by
  unfold TL at h
  split at h
  · rename_i z
    rw [List.mem_singleton.mp h, z]
    exact ⟨0, Nat.zero_le _, rfl⟩
  · obtain ⟨k, hk, e⟩ := List.mem_map.mp (uniq_mem.mp (sortW_mem.mp h))
    exact ⟨k, Nat.le_of_lt (List.mem_range.mp hk), e.symm⟩
theorem tl_has {c : List Int} {k : Nat} (hk : k < c.length) : turn c k ∈ TL c := by
  unfold TL
  rw [if_neg (fun z => by rw [z] at hk; exact absurd hk (by simp))]
  exact sortW_mem.mpr (uniq_mem.mpr (List.mem_map.mpr ⟨k, List.mem_range.mpr hk, rfl⟩))
theorem tl_len {c : List Int} {l : Nat} (hc : c ≠ []) (h : FG.IsLp c l) : (TL c).length = l := by
  unfold TL
  rw [if_neg hc, (sortW_perm _).length_eq, uniq_turns hc h c.length (Nat.le_refl _), List.length_map, List.length_range, Nat.min_eq_right h.1.2.1]
theorem tl_small {c : List Int} (hl : c.length ≤ 1000) : (TL c).length ≤ 1000 := by
  unfold TL
  split
  · decide
  · rw [(sortW_perm _).length_eq]
    exact Nat.le_trans (uniq_len _) (by rw [List.length_map, List.length_range]; exact hl)
theorem tl_pair {c : List Int} (h : L4 c) (hl : c.length ≤ 1000) : (TL c).Pairwise fun v w => PySem.W.listLt (v.map lp) (w.map lp) = true := by
  have s := tl_same h
  unfold TL at s ⊢
  split
  · exact List.pairwise_singleton _ _
  · rename_i z
    rw [if_neg z] at s
    exact sortW_pair hl (fun v hv => s v (sortW_mem.mpr hv)) (uniq_nodup _)
end G14

set_option maxHeartbeats 4000000
namespace G14
open PySem PySem.Spec PyProof.Rows L2 DL
open FG (Red red inv pw push stk ledr Rot rotB Rgo turn)
/-! # the functions -/
theorem gEq_same {x : D} (n : x.nice = true) (d : x.dep ≤ 64) : gEq x x = some (.fz (.bl true)) := by rw [gEq_nice n n d d, eqb_refl n]
theorem gNe_same {x : D} (n : x.nice = true) (d : x.dep ≤ 64) : gNe x x = some (.fz (.bl false)) := by rw [gNe_nice n n d d, eqb_refl n]; rfl
theorem callK2 {F : List S → Out} {fa fb : FP} {e e' : En} {a b x : D} (ha : fa e = some (.fz a)) (hb : fb e = some (.fz b)) (h : F [.d b, .d a] = .ok (.d x) e') : pFdK F (permG 0 2 [1, 0]) 2 aNil (aCons fa (aCons fb aNil)) e = some (.fz x) :=
  (pFdK_ok (rs := []) (qs := [.fz a, .fz b]) (us := [.fz b, .fz a]) rfl (aCons_ok ha (aCons_ok (rs := []) hb rfl)) rfl rfl).trans (callP_fz h (.inl rfl))
theorem callK2r {F : List S → Out} {fa fb : FP} {e e' : En} {a b : D} {xs : List D} (ha : fa e = some (.fz a)) (hb : fb e = some (.fz b)) (h : F [.d b, .d a] = .ok (.lst xs) e') : pFdK F (permG 0 2 [1, 0]) 2 aNil (aCons fa (aCons fb aNil)) e = some (.fr xs) :=
  (pFdK_ok (rs := []) (qs := [.fz a, .fz b]) (us := [.fz b, .fz a]) rfl (aCons_ok ha (aCons_ok (rs := []) hb rfl)) rfl rfl).trans (callP_fr h rfl)
theorem call2r {F : List S → Out} {fa fb : FP} {e e' : En} {a b : D} {xs : List D} (ha : fa e = some (.fz a)) (hb : fb e = some (.fz b)) (h : F [.d a, .d b] = .ok (.lst xs) e') : pFd F (aCons fa (aCons fb aNil)) e = some (.fr xs) := (pFd_ok (aCons_ok ha (aCons_ok (rs := []) hb rfl))).trans (callP_fr h rfl)
theorem is_ring_ok {w : List Int} (h : L4 w) : F_is_ring [.d (tw w)] = .ok (.d (.bl (FG.endsB w))) [some (.d (tw w))] := by
  have x1 : p2 gEq (pName 0) (pTup aNil) [some (.d (tw w))] = some (.fz (.bl (decide (w = [])))) := (p2_ok (a := .fz (tw w)) (b := .fz (tw [])) rfl rfl).trans (gEq_tw h L4.nil)
  have fin : pOr (p2 gEq (pName 0) (pTup aNil)) (p2 gNe (p2 DL.gAdd (p2 gIx (pName 0) (pCon (.int 0))) (p2 gIx (pName 0) (p1 gNeg (pCon (.int 1))))) (pCon (.int 0))) [some (.d (tw w))] = some (.fz (.bl (FG.endsB w))) := by
    cases w with
    | nil => exact pOr_t x1
    | cons a t =>
      rw [decide_eq_false (by simp)] at x1
      refine (pOr_f x1).trans ?_
      have ha := h a List.mem_cons_self
      have hb : Let 4 (lastI (a :: t)) := h _ (getLastD_mem (by simp))
      have y1 : p2 gIx (pName 0) (pCon (.int 0)) [some (.d (tw (a :: t)))] = some (.fz (.int a)) := by
        refine (p2_ok (a := .fz (tw (a :: t))) (b := .fz (.int 0)) rfl rfl).trans ?_
        show (atI (dints (a :: t)) 0).map RV.fz = _
        have := at_mid [] t a
        rw [List.nil_append] at this
        rw [show (0 : Int) = (([] : List Int).length : Int) from rfl, this]
        rfl
      have y2 : p2 gIx (pName 0) (p1 gNeg (pCon (.int 1))) [some (.d (tw (a :: t)))] = some (.fz (.int (lastI (a :: t)))) := by
        refine (p2_ok (a := .fz (tw (a :: t))) (b := .fz (.int (-1))) rfl rfl).trans ?_
        show (atI (dints (a :: t)) (-1)).map RV.fz = _
        rw [last_dints (by simp)]
        rfl
      have y3 : p2 DL.gAdd (p2 gIx (pName 0) (pCon (.int 0))) (p2 gIx (pName 0) (p1 gNeg (pCon (.int 1)))) [some (.d (tw (a :: t)))] = some (.fz (.int (a + lastI (a :: t)))) := (p2_ok y1 y2).trans rfl
      refine (p2_ok y3 (b := .fz (.int 0)) rfl).trans ((gNe_int (by unfold Let at ha hb; omega) (by decide)).trans ?_)
      show some (RV.fz (.bl (!decide (a + lastI (a :: t) = 0)))) = some (RV.fz (.bl (decide (a + (a :: t).getLastD 0 ≠ 0))))
      congr 3
      show (!decide (a + lastI (a :: t) = 0)) = decide (¬ (a + lastI (a :: t) = 0))
      rw [decide_not]
  exact fn_rt (B := B_is_ring) (n := 1) (lk := []) (ret_fz fin) rfl rfl
/-! ### the law's turns -/
theorem idx_lp {r i : Int} (h1 : 1 ≤ r) (h2 : r ≤ 4) (h : Let r i) : i ∈ lets r ∧ (((lets r).idxOf i : Nat) : Int) = lp i := by
  have : r = 1 ∨ r = 2 ∨ r = 3 ∨ r = 4 := by omega
  have c : i = 1 ∨ i = -1 ∨ i = 2 ∨ i = -2 ∨ i = 3 ∨ i = -3 ∨ i = 4 ∨ i = -4 := by unfold Let at h; omega
  unfold Let at h
  rcases this with rfl | rfl | rfl | rfl <;> rcases c with rfl | rfl | rfl | rfl | rfl | rfl | rfl | rfl <;> first | exact ⟨by decide, by decide⟩ | (exfalso; omega)
abbrev sl (r : Int) (c : List Int) (x2 x4 x5 x6 : Option S) : En := [some (.d (.int r)), some (.d (tw c)), x2, some (.d (.lst (dints (lets r)))), x4, x5, x6, none, none]
abbrev B_lt : FS := sSeq (sSet 5 (mPP (p2 DL.gAdd (pSl (pName 1) (oSome (pName 4)) oNone) (pSl (pName 1) oNone (oSome (pName 4)))))) (sIf (tMT (tVal (p2 gNotIn (pName 5) (pName 2)))) (sExpr (mMt 2 gApp (mPP (pName 5)))) sNil)
theorem pyL_map (ls : List (List Int)) : pyL (ls.map tw) = ls.map fun w => (tw w).py := by
  induction ls with
  | nil => rfl
  | cons w ls ih =>
    show (tw w).py :: pyL (ls.map tw) = _
    rw [ih]
    rfl
theorem nl_tw : ∀ ls : List (List Int), (∀ w ∈ ls, L4 w) → niceL (ls.map tw) = true ∧ depL (ls.map tw) ≤ 1
  | [], _ => ⟨rfl, Nat.zero_le _⟩
  | w :: ls, h => by
    obtain ⟨a, b⟩ := nl_tw ls fun x hx => h x (List.mem_cons_of_mem _ hx)
    refine ⟨?_, ?_⟩
    · show ((tw w).nice && niceL (ls.map tw)) = true
      rw [nice_tw (h w List.mem_cons_self), a]
      rfl
    · show max (depL (dints w) + 1) (depL (ls.map tw)) ≤ 1
      rw [dep_dints]
      omega
theorem inb_tw (v : List Int) : ∀ ls : List (List Int), inb (tw v) (ls.map tw) = decide (v ∈ ls) := by
  intro ls
  unfold inb
  rw [pyL_map, List.any_map]
  induction ls with
  | nil => rfl
  | cons w ls ih =>
    rw [List.any_cons, ih]
    show (eqb (tw w) (tw v) || decide (v ∈ ls)) = _
    rw [eqb_tupI, ← Bool.decide_or]
    refine decide_eq_decide.mpr ?_
    rw [List.mem_cons]
    exact ⟨fun h => h.imp Eq.symm id, fun h => h.imp Eq.symm id⟩
theorem notIn_tw {v : List Int} {ls : List (List Int)} (hv : L4 v) (hl : ∀ w ∈ ls, L4 w) : gNotIn (tw v) (.lst (ls.map tw)) = some (.fz (.bl (!decide (v ∈ ls)))) := by
  obtain ⟨n2, d2⟩ := nl_tw ls hl
  show (if eqok (tw v) = true ∧ eqok (.lst (ls.map tw)) = true then some (RV.fz (.bl (if true = true then !inb (tw v) (ls.map tw) else inb (tw v) (ls.map tw)))) else none) = _
  rw [if_pos ⟨eqok_nice (nice_tw hv) (dep_tw v), eqok_nice (d := .lst (ls.map tw)) n2 (by show depL (ls.map tw) + 1 ≤ 64; omega)⟩, inb_tw]
  rfl
theorem lt_step {r : Int} {c : List Int} (c4 : L4 c) (cl : c.length ≤ 900) {k : Nat} (acc : List (List Int)) (ha : ∀ v ∈ acc, L4 v) (hz : acc.length ≤ 900) (x5 x6 : Option S) :
    B_lt (sl r c (some (.lst (acc.map tw))) (some (.d (.int (k : Nat)))) x5 x6) = .nx (sl r c (some (.lst ((addU acc (turn c k)).map tw))) (some (.d (.int (k : Nat)))) (some (.d (tw (turn c k)))) x6) := by
  have q1 : sSet 5 (mPP (p2 DL.gAdd (pSl (pName 1) (oSome (pName 4)) oNone) (pSl (pName 1) oNone (oSome (pName 4))))) (sl r c (some (.lst (acc.map tw))) (some (.d (.int (k : Nat)))) x5 x6) = .nx (sl r c (some (.lst (acc.map tw))) (some (.d (.int (k : Nat)))) (some (.d (tw (turn c k)))) x6) := set_fz (trn_ok (c := c) (i := 1) (j := 4) (k := k) (by omega) rfl rfl) (by show 5 < 9; decide)
  have t : tVal (p2 gNotIn (pName 5) (pName 2)) (sl r c (some (.lst (acc.map tw))) (some (.d (.int (k : Nat)))) (some (.d (tw (turn c k)))) x6) = some (!decide (turn c k ∈ acc)) := tVal_ok ((p2_ok (a := .fz (tw (turn c k))) (b := .ow (acc.map tw)) rfl rfl).trans (notIn_tw (trn_L4 c4 k) ha))
  refine (seq_nx q1).trans ?_
  unfold addU
  by_cases q : turn c k ∈ acc
  · rw [decide_eq_true q] at t
    rw [if_pos q]
    exact (if_f t).trans rfl
  · rw [decide_eq_false q] at t
    rw [if_neg q]
    refine (if_t t).trans ?_
    have z : acc.length < SZ := by unfold SZ; omega
    simp [z]
theorem lt_loop {r : Int} {c : List Int} (c4 : L4 c) (cl : c.length ≤ 900) (x6 : Option S) : ∀ (n b : Nat) (acc : List (List Int)) (x4 x5 : Option S), (∀ v ∈ acc, L4 v) → acc.length + n ≤ 900 →
    ∃ y4 y5, forL (gNm 4) B_lt ((List.range' b n).map fun (i : Nat) => D.int (i : Nat)) (sl r c (some (.lst (acc.map tw))) x4 x5 x6) = .nx (sl r c (some (.lst ((((List.range' b n).map (turn c)).foldl addU acc).map tw))) y4 y5 x6)
  | 0, b, acc, x4, x5, _, _ => ⟨x4, x5, rfl⟩
  | n + 1, b, acc, x4, x5, ha, hz => by
    have s := lt_step (r := r) c4 cl (k := b) acc ha (by omega) x5 x6
    have al := addU_len acc (turn c b)
    obtain ⟨y4, y5, ih⟩ := lt_loop c4 cl x6 n (b + 1) (addU acc (turn c b)) (some (.d (.int (b : Nat)))) (some (.d (tw (turn c b)))) (fun v hv => by
      unfold addU at hv
      split at hv
      · exact ha v hv
      · rcases List.mem_append.mp hv with q | q
        · exact ha v q
        · rw [List.mem_singleton.mp q]; exact trn_L4 c4 b) (by omega)
    exact ⟨y4, y5, (forL_nx rfl s).trans ih⟩
abbrev P_it : FP := pTup (aCons (pLc [7] (iSeq (pName 5)) (gNm 7) tAll (pLi (pName 3) (pName 7))) (aCons (pName 5) aNil))
theorem it_ok {r : Int} (h1 : 1 ≤ r) (h2 : r ≤ 4) {v : List Int} (hv : ∀ i ∈ v, Let r i) (vl : v.length ≤ 900) {e : En} (el : e.length = 9) (e3 : e[3]? = some (some (.d (.lst (dints (lets r)))))) (e5 : e[5]? = some (some (.d (tw v)))) (e7 : e[7]? = some none) : P_it e = some (.fz (it v)) := by
  have we : wipeE e [7] = e := by
    show e.set 7 none = e
    refine List.ext_getElem? fun j => ?_
    by_cases q : 7 = j
    · subst q
      rw [List.getElem?_set_self (by omega), e7]
    · rw [List.getElem?_set_ne q]
  have li : lcL (gNm 7) tAll (pLi (pName 3) (pName 7)) e (v.map D.int) = some (v.map fun i => D.int (lp i)) :=
    lcI_all (by omega) v fun i hi => by
      obtain ⟨m, q⟩ := idx_lp h1 h2 (hv i hi)
      refine ⟨.fz (.int (lp i)), ?_, rfl⟩
      have n3 : (e.set 7 (some (.d (.int i))))[3]? = some (some (.d (.lst (dints (lets r))))) := by rw [List.getElem?_set_ne (by decide)]; exact e3
      have n7 : (e.set 7 (some (.d (.int i))))[7]? = some (some (.d (.int i))) := by rw [List.getElem?_set_self (by omega)]
      unfold pLi
      rw [pN n3, Option.bind_some, pN n7, Option.bind_some]
      show (ints? (dints (lets r))).bind (fun ns => if i ∈ ns then some (RV.fz (.int (ns.idxOf i : Nat))) else none) = _
      have : ∀ w : List Int, ints? (dints w) = some w := fun w => by
        induction w with
        | nil => rfl
        | cons i w ih =>
          show (ints? (dints w)).map (i :: ·) = _
          rw [ih]
          rfl
      rw [this, Option.bind_some, if_pos m, q]
  rw [← we] at li
  have sq : iSeq (pName 5) e = some (v.map D.int, true) := by
    unfold iSeq
    rw [pN e5]
    rfl
  have x1 := pLc_fr (vs := [7]) sq li (by rw [List.length_map]; omega)
  have e2 : (v.map fun i => D.int (lp i)) = dints (v.map lp) := by
    show _ = (v.map lp).map D.int
    rw [List.map_map]
    rfl
  rw [e2] at x1
  exact pTup_ok (aCons_ok x1 (aCons_ok (rs := []) (pN e5) rfl)) rfl (by show 2 ≤ 1000; decide)
theorem it_nice {v : List Int} (h : L4 v) : (it v).nice = true := by
  show (niceL (dints (v.map lp)) && ((tw v).nice && true)) = true
  rw [nice_tw h, nice_dints fun i hi => by
    obtain ⟨l, hm, rfl⟩ := List.mem_map.mp hi
    have := lp_small (h l hm)
    omega]
  rfl
theorem it_dep (v : List Int) : (it v).dep = 2 := by
  show max (depL (dints (v.map lp)) + 1) (max (depL (dints v) + 1) 0) + 1 = 2
  rw [dep_dints, dep_dints]
  rfl
theorem okData_it {U : List (List Int)} (h : ∀ v ∈ U, L4 v) : okData (U.map it) = true := by
  unfold okData
  rw [Bool.and_eq_true]
  refine ⟨List.all_eq_true.mpr fun d hd => ?_, List.all_eq_true.mpr fun d hd => List.all_eq_true.mpr fun e he => ?_⟩
  · obtain ⟨v, hv, rfl⟩ := List.mem_map.mp hd
    rw [D.nice_okp _ (it_nice (h v hv)), decide_eq_true (by rw [D.py_depth _ (it_nice (h v hv)), it_dep]; decide : (it v).py.depth ≤ 64)]
    rfl
  · obtain ⟨v, hv, rfl⟩ := List.mem_map.mp hd
    obtain ⟨w, hw, rfl⟩ := List.mem_map.mp he
    rw [it_py, it_py]
    exact PySem.W.DatumOrd.alike _ _
theorem law_turns_ok {r : Int} (h1 : 1 ≤ r) (h2 : r ≤ 4) {c : List Int} (hc : ∀ i ∈ c, Let r i) (cl : c.length ≤ 800) : F__law_turns [.d (.int r), .d (tw c)] = .ok (.lst ((TL c).map tw)) [some (.d (.int r)), some (.d (tw c))] := by
  have c4 : L4 c := fun i hi => let_up h2 (hc i hi)
  have q1 : sPar 2 3 (arOw (mPP (pLst aNil)) (arFz (mPP (pFd F__law_letters (aCons (pName 0) aNil))) arNil)) [some (.d (.int r)), some (.d (tw c)), none, none, none, none, none, none, none] = .nx (sl r c (some (.lst (([] : List (List Int)).map tw))) none none none) := by
    have l := letters_ok h1 h2
    simp [l]
  obtain ⟨m, hm⟩ : ∃ m : Nat, m = max 1 c.length := ⟨_, rfl⟩
  have m0 : m ≤ 800 := by omega
  have mx : pCa gMax2 (aCons (pCon (.int 1)) (aCons (pCa gLen (aCons (pName 1) aNil)) aNil)) (sl r c (some (.lst (([] : List (List Int)).map tw))) none none none) = some (.fz (.int (m : Nat))) := by
    have x := len_tw (e := sl r c (some (.lst (([] : List (List Int)).map tw))) none none none) (i := 1) (w := c) rfl
    refine (pCa_ok (aCons_ok (r := .fz (.int 1)) rfl (aCons_ok (rs := []) x rfl))).trans ?_
    show some (RV.fz (.int (if (c.length : Int) > 1 then (c.length : Int) else 1))) = _
    congr 3
    split <;> omega
  have rg := rg1_len mx (by omega)
  rw [List.range_eq_range'] at rg
  obtain ⟨y4, y5, e2⟩ := lt_loop (r := r) c4 (by omega) none m 0 [] none none (fun _ h => nomatch h) (by show 0 + m ≤ 900; omega)
  rw [← List.range_eq_range'] at e2 rg
  have q2 := for_ok (bind := gNm 4) (fb := B_lt) rg e2
  obtain ⟨U, hU⟩ : ∃ U, U = uniq ((List.range m).map (turn c)) := ⟨_, rfl⟩
  have q2 : sFor (iRg1 (aCons (pCa gMax2 (aCons (pCon (.int 1)) (aCons (pCa gLen (aCons (pName 1) aNil)) aNil))) aNil)) (gNm 4) B_lt (sl r c (some (.lst (([] : List (List Int)).map tw))) none none none) = .nx (sl r c (some (.lst (U.map tw))) y4 y5 none) := by
    rw [q2, hU]
    rfl
  have sm : Same c.length U ∧ ∀ v ∈ U, ∀ i ∈ v, Let r i := by
    rw [hU]
    refine ⟨fun v hv => ?_, fun v hv i hi => ?_⟩
    · obtain ⟨k, hk, rfl⟩ := List.mem_map.mp (uniq_mem.mp hv)
      have hk := List.mem_range.mp hk
      refine ⟨trn_L4 c4 k, ?_⟩
      by_cases z : c = []
      · rw [z]; simp [FG.turn]
      · have := List.length_pos_iff.mpr z
        exact trn_len c (by omega)
    · obtain ⟨k, hk, rfl⟩ := List.mem_map.mp (uniq_mem.mp hv)
      rcases List.mem_append.mp hi with q | q
      · exact hc i (List.mem_of_mem_drop q)
      · exact hc i (List.mem_of_mem_take q)
  have Ul : U.length ≤ 800 := by
    rw [hU]
    exact Nat.le_trans (uniq_len _) (by rw [List.length_map, List.length_range]; exact m0)
  have l3 : lcL (gNm 5) tAll P_it (sl r c (some (.lst (U.map tw))) y4 none none) (U.map tw) = some (U.map it) :=
    lcI_all (by show 5 < 9; decide) U fun v hv => ⟨_, it_ok h1 h2 (sm.2 v hv) (by have := (sm.1 v hv).2; omega) rfl rfl rfl rfl, rfl⟩
  have x3 := pLc_fr (vs := [5]) (fi := iSeq (pName 2)) (b := false) (e := sl r c (some (.lst (U.map tw))) y4 y5 none) rfl l3 (by rw [List.length_map]; omega)
  have so : pCa gSorted (aCons (pLc [5] (iSeq (pName 2)) (gNm 5) tAll P_it) aNil) (sl r c (some (.lst (U.map tw))) y4 y5 none) = some (.fr ((sortW U).map it)) := by
    refine (pCa_ok (aCons_ok (rs := []) x3 rfl)).trans ?_
    show (if okData (U.map it) = true then some (RV.fr ((U.map it).mergeSort (PySem.W.dataLe false D.py))) else none) = _
    rw [if_pos (okData_it fun v hv => (sm.1 v hv).1), law_sort sm.1]
  have q3 := set_fr (i := 6) so (by show 6 < 9; decide)
  have l4 : lcL (gTp 2 (gsCons (gNm 8) (gsCons (gNm 5) gsNil))) tAll (pName 5) (sl r c (some (.lst (U.map tw))) y4 none (some (.d (.lst ((sortW U).map it))))) ((sortW U).map it) = some ((sortW U).map tw) := by
    have := lcA_some (g := it) (h := tw) (p := fun _ => true) (bind := gTp 2 (gsCons (gNm 8) (gsCons (gNm 5) gsNil))) (ft := tAll) (fe := pName 5) (e := sl r c (some (.lst (U.map tw))) y4 none (some (.d (.lst ((sortW U).map it))))) (E := fun v => [some (.d (.int r)), some (.d (tw c)), some (.lst (U.map tw)), some (.d (.lst (dints (lets r)))), y4, some (.d (tw v)), some (.d (.lst ((sortW U).map it))), none, some (.d (.lst (dints (v.map lp))))]) (sortW U) (fun v _ => rfl) (fun v _ => rfl) fun v _ _ => ⟨_, rfl, rfl⟩
    rw [List.filter_eq_self.mpr fun _ _ => rfl] at this
    exact this
  have x4 := pLc_fr (vs := [8, 5]) (fi := iSeq (pName 6)) (b := true) (e := sl r c (some (.lst (U.map tw))) y4 y5 (some (.d (.lst ((sortW U).map it))))) rfl l4 (by rw [List.length_map, (sortW_perm U).length_eq]; omega)
  have fin : TL c = sortW U := by
    unfold TL
    split
    · rename_i z
      rw [hU, hm, z]
      have e : uniq ((List.range (max 1 ([] : List Int).length)).map (turn [])) = [[]] := rfl
      rw [e]
      unfold sortW
      rw [List.mergeSort_singleton]
    · rename_i z
      have := List.length_pos_iff.mpr z
      rw [hU, hm, Nat.max_eq_right (by omega)]
  rw [fin]
  exact fn_rt (B := B__law_turns) (n := 9) (lk := []) ((seq_nx q1).trans ((seq_nx q2).trans ((seq_nx q3).trans (ret_fr x4)))) rfl rfl
end G14

set_option maxHeartbeats 4000000
namespace G14
open PySem PySem.Spec PyProof.Rows L2 DL
open FG (Red red inv pw push stk ledr Rot rotB Rgo turn)
/-! # the program's functions -/
theorem call1f {F : List S → Out} {fa : FP} {e e' : En} {a : D} {xs : List D} (ha : fa e = some (.fz a)) (h : F [.d a] = .ok (.lst xs) e') : pFd F (aCons fa aNil) e = some (.fr xs) := (pFd_ok (aCons_ok (rs := []) ha rfl)).trans (callP_fr h rfl)
theorem ints_dints : ∀ w : List Int, ints? (dints w) = some w
  | [] => rfl
  | i :: w => by
    show (ints? (dints w)).map (i :: ·) = _
    rw [ints_dints w]
    rfl
theorem iws_tw : ∀ ws : List (List Int), iws? (ws.map tw) = some ws
  | [] => rfl
  | w :: ws => by
    show ((iw? (tw w)).bind fun w => (iws? (ws.map tw)).map fun ws => w :: ws) = _
    rw [iws_tw ws]
    show ((ints? (dints w)).bind fun w => some (w :: ws)) = _
    rw [ints_dints]
    rfl
section
variable {r : Int} (h1 : 1 ≤ r) (h2 : r ≤ 4)
include h1 h2
theorem ring_core_ok {w h c : List Int} (hw : Wd r w) (R : Rgo w h c) : F_ring_core [.d (.int r), .d (tw w)] = .ok (.d (.tup [tw h, tw c])) [some (.d (.int r)), some (.d (tw w))] := by
  have := hw.2
  have x : pFd F_ring_of (aCons (pName 1) aNil) [some (.d (.int r)), some (.d (tw w))] = some (.fz (.tup [tw h, tw c])) := call1 (a := tw w) rfl (ring_rgo (hw.l4 h2) hw.red (by omega) R)
  exact fn_rt (B := B_ring_core) (n := 2) (lk := []) ((seq_nx (ranked_e h1 h2 hw rfl rfl)).trans (ret_fz x)) rfl rfl
theorem is_ring_word_ok {w h c : List Int} (hw : Wd r w) (R : Rgo w h c) : F_is_ring_word [.d (.int r), .d (tw w)] = .ok (.d (.bl (decide (h = [])))) [some (.d (.int r)), some (.d (tw w))] := by
  have x : pFd F_is_ring (aCons (pName 1) aNil) [some (.d (.int r)), some (.d (tw w))] = some (.fz (.bl (decide (h = [])))) := by
    rw [← FG.ends_ok R (hw.l4 h2).z]
    exact call1 (a := tw w) rfl (is_ring_ok (hw.l4 h2))
  exact fn_rt (B := B_is_ring_word) (n := 2) (lk := []) ((seq_nx (ranked_e h1 h2 hw rfl rfl)).trans (ret_fz x)) rfl rfl
abbrev P_sd : FP := pSortD F_order_key [3] (iSeq (pFd F_turns_of (aCons (pName 2) aNil))) (gNm 3) (pName 3)
abbrev rt4 (r : Int) (w c : List Int) : En := [some (.d (.int r)), some (.d (tw w)), some (.d (tw c)), none]
omit h1 h2 in
theorem sd_list {w c : List Int} : lcL (gNm 3) tAll (pName 3) (rt4 r w c) (((List.range c.length).map (turn c)).map tw) = some (((List.range c.length).map (turn c)).map tw) :=
  lcI_all (e := rt4 r w c) (i := 3) (by show 3 < 4; decide) _ fun v _ => ⟨_, rfl, rfl⟩
omit h1 h2 in
theorem sd_seq {w c : List Int} (cl : c.length ≤ 1000) : iSeq (pFd F_turns_of (aCons (pName 2) aNil)) (rt4 r w c) = some (((List.range c.length).map (turn c)).map tw, true) := by
  have x : pFd F_turns_of (aCons (pName 2) aNil) (rt4 r w c) = some (.fr ((List.range c.length).map fun k => tw (trn c k))) := call1f (a := tw c) rfl (turns_of_ok cl)
  unfold iSeq
  rw [x, Option.bind_some]
  show some (((List.range c.length).map fun k => tw (trn c k)), true) = _
  rw [List.map_map]
  rfl
omit h1 h2 in
theorem sd_ok {w c : List Int} (c4 : L4 c) (cn : c ≠ []) (cl : c.length ≤ 1000) : P_sd (rt4 r w c) = some (.fr ((TL c).map tw)) := by
  have sm : Same c.length (uniq ((List.range c.length).map (turn c))) := fun v hv => by
    obtain ⟨k, hk, rfl⟩ := List.mem_map.mp (uniq_mem.mp hv)
    exact ⟨trn_L4 c4 k, trn_len c (Nat.le_of_lt (List.mem_range.mp hk))⟩
  unfold P_sd pSortD
  rw [sd_seq cl, Option.bind_some]
  show ((lcL (gNm 3) tAll (pName 3) (rt4 r w c) (((List.range c.length).map (turn c)).map tw)).bind fun ks => (iws? ks).bind fun ws => if ws.length ≤ SZ ∧ okSort F_order_key ((uniq ws).map twD) = true then some (RV.fr (((uniq ws).map twD).mergeSort (PySem.W.dataLe false fun d => (keyF F_order_key d).py))) else none) = _
  rw [sd_list, Option.bind_some, iws_tw, Option.bind_some]
  have ok : okSort F_order_key ((uniq ((List.range c.length).map (turn c))).map tw) = true := okSort_tw fun g hg => ⟨(sm g hg).1, by rw [(sm g hg).2]; exact cl⟩
  rw [if_pos ⟨by rw [List.length_map, List.length_range]; unfold SZ; omega, ok⟩]
  have e := prog_sort cl sm
  show some (RV.fr (((uniq ((List.range c.length).map (turn c))).map tw).mergeSort (PySem.W.dataLe false fun d => (keyF F_order_key d).py))) = _
  rw [e]
  unfold TL
  rw [if_neg cn]
theorem ring_turns_ok {w h c : List Int} (hw : Wd r w) (R : Rgo w h c) : F_ring_turns [.d (.int r), .d (tw w)] = .ok (.lst ((TL c).map tw)) [some (.d (.int r)), some (.d (tw w))] := by
  have wl := hw.2
  have w4 := hw.l4 h2
  have c4 : L4 c := fun i hi => w4 i ((rgo_mem R).2 i hi)
  have cl := rgo_len R
  have y : pFd F_ring_of (aCons (pName 1) aNil) [some (.d (.int r)), some (.d (tw w)), none, none] = some (.fz (.tup [tw h, tw c])) := call1 (a := tw w) rfl (ring_rgo w4 hw.red (by omega) R)
  have y2 : p2 gIx (pFd F_ring_of (aCons (pName 1) aNil)) (pCon (.int 1)) [some (.d (.int r)), some (.d (tw w)), none, none] = some (.fz (tw c)) := (p2_ok y (b := .fz (.int 1)) rfl).trans rfl
  have q1 : sExpr (mPP (pFd F_want_ranked (aCons (pName 0) (aCons (pName 1) aNil)))) [some (.d (.int r)), some (.d (tw w)), none, none] = .nx [some (.d (.int r)), some (.d (tw w)), none, none] := ranked_e h1 h2 hw rfl rfl
  have q2 : sSet 2 (mPP (p2 gIx (pFd F_ring_of (aCons (pName 1) aNil)) (pCon (.int 1)))) [some (.d (.int r)), some (.d (tw w)), none, none] = .nx (rt4 r w c) := set_fz y2 (by show 2 < 4; decide)
  have t : tVal (p2 gNe (pName 2) (pTup aNil)) (rt4 r w c) = some (!decide (c = [])) := tVal_ok ((p2_ok (a := .fz (tw c)) (b := .fz (tw [])) rfl rfl).trans (gNe_tw c4 L4.nil))
  have x : pIf (tVal (p2 gNe (pName 2) (pTup aNil))) P_sd (pLst (aCons (pTup aNil) aNil)) (rt4 r w c) = some (.fr ((TL c).map tw)) := by
    by_cases z : c = []
    · rw [decide_eq_true z] at t
      rw [pIf_f t]
      unfold TL
      rw [if_pos z]
      rfl
    · rw [decide_eq_false z] at t
      rw [pIf_t t]
      exact sd_ok c4 z (by omega)
  exact fn_rt (B := B_ring_turns) (n := 4) (lk := []) ((seq_nx q1).trans ((seq_nx q2).trans (ret_fr x))) rfl rfl
theorem is_before_ok {v w : List Int} (hv : Wd r v) (hw : Wd r w) (hl : v.length = w.length) : F_is_before [.d (.int r), .d (tw v), .d (tw w)] = .ok (.d (.bl (PySem.W.listLt (v.map lp) (w.map lp)))) [some (.d (.int r)), some (.d (tw v)), some (.d (tw w))] := by
  have vl := hv.2
  have wl := hw.2
  have v4 := hv.l4 h2
  have w4 := hw.l4 h2
  have q1 : sExpr (mPP (pFd F_want_ranked (aCons (pName 0) (aCons (pName 1) aNil)))) [some (.d (.int r)), some (.d (tw v)), some (.d (tw w))] = .nx [some (.d (.int r)), some (.d (tw v)), some (.d (tw w))] := ranked_e h1 h2 hv rfl rfl
  have q2 : sExpr (mPP (pFd F_want_word (aCons (pName 0) (aCons (pName 2) aNil)))) [some (.d (.int r)), some (.d (tw v)), some (.d (tw w))] = .nx [some (.d (.int r)), some (.d (tw v)), some (.d (tw w))] := expr_fz (call2 (fa := pName 0) (fb := pName 2) (a := .int r) (b := tw w) rfl rfl (want_word_ok w4 (by omega) (gw_wordB hw.1 hw.2)))
  have x1 : pFd F_order_key (aCons (pName 1) aNil) [some (.d (.int r)), some (.d (tw v)), some (.d (tw w))] = some (.fz (kD v)) := call1 (a := tw v) rfl (order_key_ok v4 (by omega))
  have x2 : pFd F_order_key (aCons (pName 2) aNil) [some (.d (.int r)), some (.d (tw v)), some (.d (tw w))] = some (.fz (kD w)) := call1 (a := tw w) rfl (order_key_ok w4 (by omega))
  have x3 : p2 gLtD (pFd F_order_key (aCons (pName 1) aNil)) (pFd F_order_key (aCons (pName 2) aNil)) [some (.d (.int r)), some (.d (tw v)), some (.d (tw w))] = some (.fz (.bl (PySem.W.listLt (v.map lp) (w.map lp)))) := by
    refine (p2_ok x1 x2).trans ?_
    show gLtD (kD v) (kD w) = _
    unfold gLtD
    have n1 := kD_nice v4 (show v.length ≤ 1000 by omega)
    have n2 := kD_nice w4 (show w.length ≤ 1000 by omega)
    rw [if_pos ⟨D.nice_okp _ n1, D.nice_okp _ n2, kD_alike v w, rfl, by rw [D.py_depth _ n1, D.py_depth _ n2, kD_dep, kD_dep]; decide⟩, kD_lt v w hl]
  exact fn_rt (B := B_is_before) (n := 3) (lk := []) ((seq_nx q1).trans ((seq_nx q2).trans (ret_fz x3))) rfl rfl
theorem led_ok {w g : List Int} (hw : Wd r w) (hg : Wd r g) (hl : (ledr w g).length ≤ 60) : F_led [.d (.int r), .d (tw w), .d (tw g)] = .ok (.d (tw (ledr w g))) [some (.d (.int r)), some (.d (tw w)), some (.d (tw g))] := by
  have := hw.2
  have := hg.2
  have x1 := call2 (e := [some (.d (.int r)), some (.d (tw w)), some (.d (tw g))]) (fa := pName 1) (fb := pName 2) (a := tw w) (b := tw g) rfl rfl (led_of_ok (hw.l4 h2) (hg.l4 h2) (by omega))
  exact fn_rt (B := B_led) (n := 3) (lk := []) ((seq_nx (two_e h1 h2 hw hg rfl rfl rfl)).trans (ret_fz (call1 x1 (want_told_ok h1 h2 hl)))) rfl rfl
theorem are_led_ok {w o h c l d : List Int} (hw : Wd r w) (ho : Wd r o) (R : Rgo w h c) (R' : Rgo o l d) :
    F_are_led [.d (.int r), .d (tw w), .d (tw o)] = .ok (.d (.bl (rotB c d))) [some (.d (.int r)), some (.d (tw w)), some (.d (tw o))] := by
  have := hw.2
  have := ho.2
  obtain ⟨x, t, e⟩ := leader_of_ok (hw.l4 h2) (ho.l4 h2) hw.red ho.red (by omega) (by omega) R R'
  have x1 := call2 (e := [some (.d (.int r)), some (.d (tw w)), some (.d (tw o))]) (fa := pName 1) (fb := pName 2) (a := tw w) (b := tw o) rfl rfl e
  have nn : (!x.isNon) = rotB c d := by
    rcases t with ⟨e1, e2⟩ | ⟨e1, g, e2, _⟩
    · rw [e1, e2]; rfl
    · rw [e1, e2]; rfl
  have x2 : p2 gIsNot (pFd F_leader_of (aCons (pName 1) (aCons (pName 2) aNil))) (pCon .non) [some (.d (.int r)), some (.d (tw w)), some (.d (tw o))] = some (.fz (.bl (rotB c d))) := (p2_ok x1 (b := .fz .non) rfl).trans (by rw [← nn]; rfl)
  exact fn_rt (B := B_are_led) (n := 3) (lk := []) ((seq_nx (two_e h1 h2 hw ho rfl rfl rfl)).trans (ret_fz x2)) rfl rfl
end
/-! ### products of three -/
end G14

set_option maxHeartbeats 4000000
namespace G14
open PySem PySem.Spec PyProof.Rows L2 DL
open FG (Red red inv pw push stk ledr Rot rotB Rgo turn)
/-! # one word is right -/
theorem gAdd_tw (u v : List Int) (h : u.length + v.length ≤ 1000) : DL.gAdd (tw u) (tw v) = some (.fz (tw (u ++ v))) := by
  have l : (dints u).length + (dints v).length ≤ SZ := by rw [dints_length, dints_length]; unfold SZ; omega
  refine (show DL.gAdd (tw u) (tw v) = some (.fz (.tup (dints u ++ dints v))) from if_pos l).trans ?_
  rw [← dints_append]
abbrev oe (r : Int) (w h c : List Int) (x4 x5 x6 x7 x8 x9 x10 : Option S) : En := [some (.d (.int r)), some (.d (tw w)), some (.d (tw h)), some (.d (tw c)), x4, x5, x6, x7, x8, x9, x10, none, none, none]
abbrev T_o2 : FT := tVal (p2 gNe (pCa gRepr (aCons (pLst (aCons (pFd F_ring_core (aCons (pName 0) (aCons (pName 1) aNil))) (aCons (pFdK F_ring_core (permG 0 2 [1, 0]) 2 aNil (aCons (pName 1) (aCons (pName 0) aNil))) aNil))) aNil)) (pCa gRepr (aCons (p2 DL.gMul (pLst (aCons (pTup (aCons (pName 2) (aCons (pName 3) aNil))) aNil)) (pCon (.int 2))) aNil)))
abbrev T_o3 : FT := DL.tOr (tVal (p2 gNe (p2 DL.gAdd (p2 DL.gAdd (pName 2) (pName 3)) (pFd F__law_undone (aCons (pName 2) aNil))) (pName 1))) (tVal (p2 gNe (p2 gEq (pName 3) (pTup aNil)) (p2 gEq (pName 1) (pTup aNil))))
abbrev T_o5 : FT := tVal (p2 gNe (pCa gRepr (aCons (pLst (aCons (pFd F_is_ring_word (aCons (pName 0) (aCons (pName 1) aNil))) (aCons (pFdK F_is_ring_word (permG 0 2 [1, 0]) 2 aNil (aCons (pName 1) (aCons (pName 0) aNil))) (aCons (pFd F_is_ring_word (aCons (pName 0) (aCons (pName 3) aNil))) aNil)))) aNil)) (pCa gRepr (aCons (pLst (aCons (pName 4) (aCons (pName 4) (aCons (pCon (.bl true)) aNil)))) aNil)))
abbrev B_o6 : FS := sSeq (sSet 6 (mPP (pIf (tVal (p2 gGt (pName 5) (pCon (.int 0)))) (pName 3) (pFd F__law_undone (aCons (pName 3) aNil))))) (sSeq (sSet 7 (mPP (pIf (tVal (p2 gNe (pName 3) (pTup aNil))) (p2 DL.gAdd (p2 DL.gAdd (pName 2) (p2 DL.gMul (pName 6) (pCa gAbs (aCons (pName 5) aNil)))) (pFd F__law_undone (aCons (pName 2) aNil))) (pTup aNil)))) (sIf (tMT (DL.tAnd (tVal (p2 gLe (pCa gLen (aCons (pName 7) aNil)) (pCon (.int 60)))) (tVal (p2 gNe (pFd F_power (aCons (pName 0) (aCons (pName 1) (aCons (pName 5) aNil)))) (pName 7))))) (sRet (mPP (pCon (.bl false)))) sNil))
abbrev T_o9 : FT := tVal (p2 gNe (pView 9 (pCa gRepr (aCons (pLst (aCons (pName 9) (aCons (pFdK F_ring_turns (permG 0 2 [1, 0]) 2 aNil (aCons (pName 1) (aCons (pName 0) aNil))) aNil))) aNil))) (pCa gRepr (aCons (pLst (aCons (pName 8) (aCons (pName 8) aNil))) aNil)))
abbrev T_o11 : FT := DL.tOr (tVal (p2 gNe (pCa gRepr (aCons (pFd F_ring_turns (aCons (pName 0) (aCons (pName 1) aNil))) aNil)) (pCa gRepr (aCons (pName 8) aNil)))) (DL.tNot (tVal (pCa gAll (aCons (pLc [11, 12] (iZip (aCons (pName 8) (aCons (pSl (pName 8) (oSome (pCon (.int 1))) oNone) aNil))) (gTp 2 (gsCons (gNm 11) (gsCons (gNm 12) gsNil))) tAll (pFd F_is_before (aCons (pName 0) (aCons (pName 11) (aCons (pName 12) aNil))))) aNil))))
abbrev P_ld : FP := pFd F_led (aCons (pName 0) (aCons (pName 3) (aCons (pSl (pName 3) oNone (oSome (pName 10))) aNil)))
abbrev B_o12 : FS := sIf (tMT (DL.tOr (tVal (p2 gNotIn P_ld (pName 8))) (tVal (p2 gNe P_ld (p2 DL.gAdd (pSl (pName 3) (oSome (pName 10)) oNone) (pSl (pName 3) oNone (oSome (pName 10)))))))) (sRet (mPP (pCon (.bl false)))) sNil
abbrev T_o13 : FT := DL.tAnd (tVal (p2 gNe (pName 3) (pTup aNil))) (tVal (p2 gNe (pCa gLen (aCons (pName 3) aNil)) (p2 DL.gMul (pCa gLen (aCons (pName 8) aNil)) (pIf (tVal (p2 gGt (pCa gLen (aCons (pName 3) aNil)) (pCon (.int 0)))) (p2 gFdiv (pCa gLen (aCons (pName 3) aNil)) (pCa gLen (aCons (pFd F__law_part (aCons (pName 3) aNil)) aNil))) (pCon (.int 1))))))
abbrev P_o14 : FP := pCa gAll (aCons (pLc [13] (iSeq (pName 8)) (gNm 13) tAll (pFd F_are_led (aCons (pName 0) (aCons (pName 1) (aCons (pName 13) aNil))))) aNil)
theorem nice_tws {ls : List (List Int)} {n : Nat} (h : Same n ls) : niceL (ls.map tw) = true ∧ depL (ls.map tw) ≤ 1 ∧ sizeL (ls.map tw) = ls.length * (n + 1) := by
  refine ⟨(nl_tw ls fun w hw => (h w hw).1).1, (nl_tw ls fun w hw => (h w hw).1).2, ?_⟩
  induction ls with
  | nil => simp [sizeL]
  | cons w ls ih =>
    have q := ih fun v hv => h v (List.mem_cons_of_mem _ hv)
    show sizeL (dints w) + 1 + sizeL (ls.map tw) = _
    rw [q, size_dints, (h w List.mem_cons_self).2, List.length_cons, Nat.succ_mul]
    omega
theorem late_pow {w h c : List Int} (R : Rgo w h c) (hw : Red w) {k : Int} (hk : k ≠ 0) : (if c ≠ [] then h ++ pw (if 0 < k then c else inv c) k.natAbs ++ inv h else []) = red (pw (if 0 < k then w else inv w) k.natAbs) := by
  by_cases z : c = []
  · rw [if_neg (fun q => q z)]
    have e := (FG.rgo_core R).mp z
    subst e
    have : ∀ n, pw ([] : List Int) n = [] := fun n => by
      induction n with
      | zero => rfl
      | succ n ih => show [] ++ pw [] n = []; rw [ih]; rfl
    have e2 : (if 0 < k then ([] : List Int) else inv []) = [] := by split <;> rfl
    rw [e2, this]
    rfl
  · rw [if_pos z]
    by_cases q : 0 < k
    · rw [if_pos q, if_pos q, FG.rgo_pow R hw z (by omega)]
    · rw [if_neg q, if_neg q]
      have iz : inv c ≠ [] := FG.inv_ne z
      rw [FG.rgo_pow (FG.rgo_inv R) (FG.red_inv hw) iz (by omega)]
section
variable {r : Int} (h1 : 1 ≤ r) (h2 : r ≤ 4) {w h c : List Int} (hw : Wd r w) (R : Rgo w h c) (wl : w.length ≤ 30)
include h1 h2 hw R wl
theorem o_core : Wd r c ∧ c.length ≤ 30 ∧ h.length ≤ 30 ∧ L4 h := by
  have cl := rgo_len R
  have e := (R : Rgo w h c)
  have g : GW r c := by
    refine ⟨?_, fun i hi => hw.1.2 i ((rgo_mem R).2 i hi)⟩
    have := hw.red
    rw [FG.Rgo.eq R] at this
    exact (FG.Red.left this).right
  exact ⟨⟨g, by omega⟩, by omega, by omega, fun i hi => hw.l4 h2 i ((rgo_mem R).1 i hi)⟩
theorem o2_ok : T_o2 (oe r w h c none none none none none none none) = some false := by
  obtain ⟨hc, cl, hl, h4⟩ := o_core h1 h2 hw R wl
  have c4 := hc.l4 h2
  have n : (D.tup [tw h, tw c]).nice = true := by
    show ((tw h).nice && ((tw c).nice && true)) = true
    rw [nice_tw h4, nice_tw c4]
    rfl
  have d : (D.tup [tw h, tw c]).dep ≤ 50 := by
    show max (depL (dints h) + 1) (max (depL (dints c) + 1) 0) + 1 ≤ 50
    rw [dep_dints, dep_dints]
    decide
  have s : (D.tup [tw h, tw c]).size ≤ 3000 := by
    show sizeL (dints h) + 1 + (sizeL (dints c) + 1 + 0) ≤ 3000
    rw [size_dints, size_dints]
    omega
  have rc := ring_core_ok h1 h2 hw R
  have x1 := repr_two n d s (call2 (e := oe r w h c none none none none none none none) (fa := pName 0) (fb := pName 1) rfl rfl rc) (callK2 (fa := pName 1) (fb := pName 0) rfl rfl rc)
  have x2 : p2 DL.gMul (pLst (aCons (pTup (aCons (pName 2) (aCons (pName 3) aNil))) aNil)) (pCon (.int 2)) (oe r w h c none none none none none none none) = some (.fr [.tup [tw h, tw c], .tup [tw h, tw c]]) :=
    (p2_ok (a := .fr [.tup [tw h, tw c]]) (b := .fz (.int 2)) rfl rfl).trans ((gMul_rep _ (by decide)).trans rfl)
  have n2 := nice_two n
  have x3 := repr_fr x2 n2 (by show max (D.tup [tw h, tw c]).dep (max (D.tup [tw h, tw c]).dep 0) ≤ 60; omega) (by show (D.tup [tw h, tw c]).size + 1 + ((D.tup [tw h, tw c]).size + 1 + 0) ≤ 8000; omega)
  exact shown_f x1 x3 n2
theorem o3_ok : T_o3 (oe r w h c none none none none none none none) = some false := by
  obtain ⟨hc, cl, hl, h4⟩ := o_core h1 h2 hw R wl
  have c4 := hc.l4 h2
  have w4 := hw.l4 h2
  have x1 : p2 DL.gAdd (pName 2) (pName 3) (oe r w h c none none none none none none none) = some (.fz (tw (h ++ c))) := (p2_ok (a := .fz (tw h)) (b := .fz (tw c)) rfl rfl).trans (gAdd_tw h c (by omega))
  have x2 : pFd F__law_undone (aCons (pName 2) aNil) (oe r w h c none none none none none none none) = some (.fz (tw (inv h))) := call1 (a := tw h) rfl (law_undone_ok (by omega))
  have x3 := (p2_ok x1 x2).trans (gAdd_tw (h ++ c) (inv h) (by rw [List.length_append, FG.inv_length]; omega))
  rw [← FG.Rgo.eq R] at x3
  refine (tOr_ok (a := false) (b := false) (ne_f x3 (b := .fz (tw w)) rfl rfl (nice_tw w4) (dep_tw w)) fun _ => ?_).trans rfl
  have y1 : p2 gEq (pName 3) (pTup aNil) (oe r w h c none none none none none none none) = some (.fz (.bl (decide (c = [])))) := (p2_ok (a := .fz (tw c)) (b := .fz (tw [])) rfl rfl).trans (gEq_tw c4 L4.nil)
  have y2 : p2 gEq (pName 1) (pTup aNil) (oe r w h c none none none none none none none) = some (.fz (.bl (decide (w = [])))) := (p2_ok (a := .fz (tw w)) (b := .fz (tw [])) rfl rfl).trans (gEq_tw w4 L4.nil)
  refine ne_f y1 y2 ?_ rfl (by show 0 ≤ 64; omega)
  show D.bl (decide (c = [])) = D.bl (decide (w = []))
  congr 1
  rw [decide_eq_decide]
  exact FG.rgo_core R
theorem o5_ok : T_o5 (oe r w h c (some (.d (.bl (decide (h = []))))) none none none none none none) = some false := by
  obtain ⟨hc, cl, hl, h4⟩ := o_core h1 h2 hw R wl
  have i1 := is_ring_word_ok h1 h2 hw R
  have R' := FG.rgo_turn R 0
  have e0 : turn c 0 = c := by unfold turn; simp
  rw [e0] at R'
  have i2 := is_ring_word_ok h1 h2 hc R'
  have y1 := call2 (e := oe r w h c (some (.d (.bl (decide (h = []))))) none none none none none none) (fa := pName 0) (fb := pName 1) rfl rfl i1
  have y2 := callK2 (e := oe r w h c (some (.d (.bl (decide (h = []))))) none none none none none none) (fa := pName 1) (fb := pName 0) rfl rfl i1
  have y3 := call2 (e := oe r w h c (some (.d (.bl (decide (h = []))))) none none none none none none) (fa := pName 0) (fb := pName 3) rfl rfl i2
  have x1 := repr_fr (lst3_ok y1 y2 y3) rfl (by show 0 ≤ 60; omega) (by show 3 ≤ 8000; omega)
  have x2 := repr_fr (lst3_ok (f := pName 4) (g := pName 4) (h := pCon (.bl true)) (e := oe r w h c (some (.d (.bl (decide (h = []))))) none none none none none none) (x := .bl (decide (h = []))) (y := .bl (decide (h = []))) (z := .bl true) rfl rfl rfl) rfl (by show 0 ≤ 60; omega) (by show 3 ≤ 8000; omega)
  have e1 : decide (([] : List Int) = []) = true := by decide
  rw [e1] at x1
  exact shown_f x1 x2 rfl
theorem o6_step {k : Int} (hk : k = 2 ∨ k = 3 ∨ k = -2) (x4 x6 x7 : Option S) : ∃ y6 y7, B_o6 (oe r w h c x4 (some (.d (.int k))) x6 x7 none none none) = .nx (oe r w h c x4 (some (.d (.int k))) y6 y7 none none none) := by
  obtain ⟨hc, cl, hl, h4⟩ := o_core h1 h2 hw R wl
  have c4 := hc.l4 h2
  have w4 := hw.l4 h2
  obtain ⟨b, hb⟩ : ∃ b, b = (if 0 < k then c else inv c) := ⟨_, rfl⟩
  have b4 : L4 b := by rw [hb]; split; exact c4; exact c4.inv
  have bl' : b.length = c.length := by rw [hb]; split; rfl; exact FG.inv_length c
  have bz : b = [] ↔ c = [] := by
    constructor
    · intro q; rw [q] at bl'; exact List.length_eq_zero_iff.mp bl'.symm
    · intro q; rw [q] at bl'; exact List.length_eq_zero_iff.mp bl'
  obtain ⟨n, hn⟩ : ∃ n, n = k.natAbs := ⟨_, rfl⟩
  have n1 : 1 ≤ n := by omega
  have n3 : n ≤ 3 := by omega
  have q1 : sSet 6 (mPP (pIf (tVal (p2 gGt (pName 5) (pCon (.int 0)))) (pName 3) (pFd F__law_undone (aCons (pName 3) aNil)))) (oe r w h c x4 (some (.d (.int k))) x6 x7 none none none) = .nx (oe r w h c x4 (some (.d (.int k))) (some (.d (tw b))) x7 none none none) := by
    refine set_fz (x := tw b) ?_ (by show 6 < 14; decide)
    have t : tVal (p2 gGt (pName 5) (pCon (.int 0))) (oe r w h c x4 (some (.d (.int k))) x6 x7 none none none) = some (decide (0 < k)) := rfl
    by_cases q : 0 < k
    · rw [decide_eq_true q] at t
      rw [pIf_t t, hb, if_pos q]
      rfl
    · rw [decide_eq_false q] at t
      rw [pIf_f t, hb, if_neg q]
      exact call1 (a := tw c) rfl (law_undone_ok (by omega))
  obtain ⟨l, hl'⟩ : ∃ l, l = (if c ≠ [] then h ++ pw b n ++ inv h else []) := ⟨_, rfl⟩
  have el : l = red (pw (if 0 < k then w else inv w) k.natAbs) := by rw [hl', hb, hn]; exact late_pow R hw.red (by omega)
  have l4 : L4 l := by rw [hl']; split; exact (h4.app (b4.pw n)).app h4.inv; exact L4.nil
  have q2 : sSet 7 (mPP (pIf (tVal (p2 gNe (pName 3) (pTup aNil))) (p2 DL.gAdd (p2 DL.gAdd (pName 2) (p2 DL.gMul (pName 6) (pCa gAbs (aCons (pName 5) aNil)))) (pFd F__law_undone (aCons (pName 2) aNil))) (pTup aNil))) (oe r w h c x4 (some (.d (.int k))) (some (.d (tw b))) x7 none none none) = .nx (oe r w h c x4 (some (.d (.int k))) (some (.d (tw b))) (some (.d (tw l))) none none none) := by
    refine set_fz (x := tw l) ?_ (by show 7 < 14; decide)
    have t : tVal (p2 gNe (pName 3) (pTup aNil)) (oe r w h c x4 (some (.d (.int k))) (some (.d (tw b))) x7 none none none) = some (!decide (c = [])) := tVal_ok ((p2_ok (a := .fz (tw c)) (b := .fz (tw [])) rfl rfl).trans (gNe_tw c4 L4.nil))
    by_cases z : c = []
    · rw [decide_eq_true z] at t
      rw [pIf_f t, hl', if_neg fun q => q z]
      rfl
    · rw [decide_eq_false z] at t
      rw [pIf_t t, hl', if_pos z]
      have a1 : pCa gAbs (aCons (pName 5) aNil) (oe r w h c x4 (some (.d (.int k))) (some (.d (tw b))) x7 none none none) = some (.fz (.int (n : Int))) := by
        show some (RV.fz (.int (if k < 0 then -k else k))) = _
        congr 3
        split <;> omega
      have pl : (pw b n).length ≤ 90 := by
        rw [FG.pw_length, bl']
        have := Nat.mul_le_mul n3 cl
        omega
      have a2 : p2 DL.gMul (pName 6) (pCa gAbs (aCons (pName 5) aNil)) (oe r w h c x4 (some (.d (.int k))) (some (.d (tw b))) x7 none none none) = some (.fz (tw (pw b n))) := (p2_ok (a := .fz (tw b)) rfl a1).trans (gMul_tup (fun q => z (bz.mp q)) n1 (by omega) (by omega))
      have a3 := (p2_ok (fa := pName 2) (a := .fz (tw h)) rfl a2).trans (gAdd_tw h (pw b n) (by omega))
      have a4 : pFd F__law_undone (aCons (pName 2) aNil) (oe r w h c x4 (some (.d (.int k))) (some (.d (tw b))) x7 none none none) = some (.fz (tw (inv h))) := call1 (a := tw h) rfl (law_undone_ok (by omega))
      exact (p2_ok a3 a4).trans (gAdd_tw _ _ (by rw [List.length_append, FG.inv_length]; omega))
  have q3 : sIf (tMT (DL.tAnd (tVal (p2 gLe (pCa gLen (aCons (pName 7) aNil)) (pCon (.int 60)))) (tVal (p2 gNe (pFd F_power (aCons (pName 0) (aCons (pName 1) (aCons (pName 5) aNil)))) (pName 7))))) (sRet (mPP (pCon (.bl false)))) sNil (oe r w h c x4 (some (.d (.int k))) (some (.d (tw b))) (some (.d (tw l))) none none none) = .nx (oe r w h c x4 (some (.d (.int k))) (some (.d (tw b))) (some (.d (tw l))) none none none) := by
    refine ckF ?_
    have t1 : tVal (p2 gLe (pCa gLen (aCons (pName 7) aNil)) (pCon (.int 60))) (oe r w h c x4 (some (.d (.int k))) (some (.d (tw b))) (some (.d (tw l))) none none none) = some (decide ((l.length : Int) ≤ 60)) := tVal_ok ((p2_ok (len_tw (i := 7) rfl) (b := .fz (.int 60)) rfl).trans rfl)
    refine (tAnd_ok (b := false) t1 fun q => ?_).trans (by rw [Bool.and_false])
    have ll : l.length ≤ 60 := by have := of_decide_eq_true q; omega
    have p := power_ok h1 h2 (k := k) hw (by omega) (by rw [← el]; exact ll)
    rw [← el] at p
    exact ne_f (call3 (fa := pName 0) (fb := pName 1) (fc := pName 5) rfl rfl rfl p) (b := .fz (tw l)) rfl rfl (nice_tw l4) (dep_tw l)
  exact ⟨_, _, (seq_nx q1).trans ((seq_nx q2).trans q3)⟩
theorem o6_loop (x4 x5 x6 x7 : Option S) : ∃ y5 y6 y7, sFor (iSeq (pTup (aCons (pCon (.int 2)) (aCons (pCon (.int 3)) (aCons (p1 gNeg (pCon (.int 2))) aNil))))) (gNm 5) B_o6 (oe r w h c x4 x5 x6 x7 none none none) = .nx (oe r w h c x4 y5 y6 y7 none none none) := by
  obtain ⟨e', q, y5, y6, y7, rfl⟩ := for_any (I := fun e => ∃ y5 y6 y7, e = oe r w h c x4 y5 y6 y7 none none none) (fi := iSeq (pTup (aCons (pCon (.int 2)) (aCons (pCon (.int 3)) (aCons (p1 gNeg (pCon (.int 2))) aNil))))) (bind := gNm 5) (fb := B_o6) (e := oe r w h c x4 x5 x6 x7 none none none) (ds := [.int 2, .int 3, .int (-2)]) rfl (fun d hd e he => by
    obtain ⟨y5, y6, y7, rfl⟩ := he
    obtain ⟨k, rfl, hk⟩ : ∃ k, d = .int k ∧ (k = 2 ∨ k = 3 ∨ k = -2) := by
      simp only [List.mem_cons, List.not_mem_nil, or_false] at hd
      rcases hd with q | q | q
      · exact ⟨2, q, .inl rfl⟩
      · exact ⟨3, q, .inr (.inl rfl)⟩
      · exact ⟨-2, q, .inr (.inr rfl)⟩
    obtain ⟨z6, z7, q⟩ := o6_step h1 h2 hw R wl hk x4 y6 y7
    exact ⟨_, _, rfl, q, _, _, _, rfl⟩) ⟨x5, x6, x7, rfl⟩
  exact ⟨y5, y6, y7, q⟩
end
end G14

set_option maxHeartbeats 4000000
namespace G14
open PySem PySem.Spec PyProof.Rows L2 DL
open FG (Red red inv pw push stk ledr Rot rotB Rgo turn)
/-! # one word is right: its turns -/
theorem turn_gw {r : Int} {w h c : List Int} (hw : GW r w) (R : Rgo w h c) (k : Nat) : GW r (turn c k) := by
  have hm : ∀ i ∈ c, Let r i := fun i hi => hw.2 i ((rgo_mem R).2 i hi)
  refine ⟨?_, fun i hi => ?_⟩
  · rcases R with ⟨_, _, rfl⟩ | ⟨_, cy⟩
    · unfold turn
      rw [List.drop_nil, List.take_nil]
      trivial
    · exact (FG.Rot.cyc ⟨c.take k, c.drop k, (List.take_append_drop k c).symm, rfl⟩ cy).2.left
  · rcases List.mem_append.mp hi with q | q
    · exact hm i (List.mem_of_mem_drop q)
    · exact hm i (List.mem_of_mem_take q)
section
variable {r : Int} (h1 : 1 ≤ r) (h2 : r ≤ 4) {w h c : List Int} (hw : Wd r w) (R : Rgo w h c) (wl : w.length ≤ 30)
include h1 h2 hw R wl
theorem o_tl : Same c.length (TL c) ∧ (TL c).length ≤ 31 ∧ niceL ((TL c).map tw) = true ∧ depL ((TL c).map tw) ≤ 1 ∧ sizeL ((TL c).map tw) ≤ 1000 := by
  obtain ⟨hc, cl, hl, h4⟩ := o_core h1 h2 hw R wl
  have s := tl_same (hc.l4 h2)
  have tl : (TL c).length ≤ 31 := by
    by_cases z : c = []
    · unfold TL; rw [if_pos z]; show 1 ≤ 31; omega
    · obtain ⟨l, hl⟩ := FG.lp_ex z
      rw [tl_len z hl]
      have := hl.1.2.1
      omega
  obtain ⟨a, b, d⟩ := nice_tws s
  refine ⟨s, tl, a, b, ?_⟩
  rw [d]
  have := Nat.mul_le_mul tl (show c.length + 1 ≤ 31 by omega)
  omega
theorem o9_ok (x4 x5 x6 x7 : Option S) : T_o9 (oe r w h c x4 x5 x6 x7 (some (.d (.lst ((TL c).map tw)))) (some (.lst ((TL c).map tw))) none) = some false := by
  obtain ⟨s, tl, n, d, z⟩ := o_tl h1 h2 hw R wl
  have n2 : niceL [D.lst ((TL c).map tw), D.lst ((TL c).map tw)] = true := by
    show ((D.lst ((TL c).map tw)).nice && ((D.lst ((TL c).map tw)).nice && true)) = true
    rw [show (D.lst ((TL c).map tw)).nice = true from n]
    rfl
  have d2 : depL [D.lst ((TL c).map tw), D.lst ((TL c).map tw)] ≤ 60 := by
    show max (depL ((TL c).map tw) + 1) (max (depL ((TL c).map tw) + 1) 0) ≤ 60
    omega
  have z2 : sizeL [D.lst ((TL c).map tw), D.lst ((TL c).map tw)] ≤ 8000 := by
    show sizeL ((TL c).map tw) + 1 + (sizeL ((TL c).map tw) + 1 + 0) ≤ 8000
    omega
  have rt := ring_turns_ok h1 h2 hw R
  have y2 : pFdK F_ring_turns (permG 0 2 [1, 0]) 2 aNil (aCons (pName 1) (aCons (pName 0) aNil)) (oe r w h c x4 x5 x6 x7 (some (.d (.lst ((TL c).map tw)))) (some (.d (.lst ((TL c).map tw)))) none) = some (.fr ((TL c).map tw)) := callK2r (fa := pName 1) (fb := pName 0) rfl rfl rt
  have x1 : pView 9 (pCa gRepr (aCons (pLst (aCons (pName 9) (aCons (pFdK F_ring_turns (permG 0 2 [1, 0]) 2 aNil (aCons (pName 1) (aCons (pName 0) aNil))) aNil))) aNil)) (oe r w h c x4 x5 x6 x7 (some (.d (.lst ((TL c).map tw)))) (some (.lst ((TL c).map tw))) none) = some (.fz (.str (D.lst [D.lst ((TL c).map tw), D.lst ((TL c).map tw)]).py.shown)) := by
    have f : frz 9 (oe r w h c x4 x5 x6 x7 (some (.d (.lst ((TL c).map tw)))) (some (.lst ((TL c).map tw))) none) = oe r w h c x4 x5 x6 x7 (some (.d (.lst ((TL c).map tw)))) (some (.d (.lst ((TL c).map tw)))) none := rfl
    unfold pView
    rw [f, repr_fr (pLst_ok (aCons_ok (r := .fz (.lst ((TL c).map tw))) rfl (aCons_ok (rs := []) y2 rfl)) rfl (by show 2 ≤ 1000; omega)) n2 d2 z2]
    rfl
  have x2 := repr_fr (f := pLst (aCons (pName 8) (aCons (pName 8) aNil))) (e := oe r w h c x4 x5 x6 x7 (some (.d (.lst ((TL c).map tw)))) (some (.lst ((TL c).map tw))) none) (xs := [D.lst ((TL c).map tw), D.lst ((TL c).map tw)]) rfl n2 d2 z2
  exact shown_f x1 x2 n2
theorem o11_ok (x4 x5 x6 x7 x9 x10 : Option S) : T_o11 (oe r w h c x4 x5 x6 x7 (some (.d (.lst ((TL c).map tw)))) x9 x10) = some false := by
  obtain ⟨hc, cl, hl, h4⟩ := o_core h1 h2 hw R wl
  obtain ⟨s, tl, n, d, z⟩ := o_tl h1 h2 hw R wl
  have rt := ring_turns_ok h1 h2 hw R
  have x1 := repr_fr (call2r (e := oe r w h c x4 x5 x6 x7 (some (.d (.lst ((TL c).map tw)))) x9 x10) (fa := pName 0) (fb := pName 1) rfl rfl rt) n (by omega) (by omega)
  have x2 := repr_fz (f := pName 8) (e := oe r w h c x4 x5 x6 x7 (some (.d (.lst ((TL c).map tw)))) x9 x10) (xs := (TL c).map tw) rfl n (by omega) (by omega)
  refine (tOr_ok (a := false) (b := false) (shown_f x1 x2 n) fun _ => ?_).trans rfl
  have sl : pSl (pName 8) (oSome (pCon (.int 1))) oNone (oe r w h c x4 x5 x6 x7 (some (.d (.lst ((TL c).map tw)))) x9 x10) = some (.fr (((TL c).map tw).drop 1)) := by
    show some (RV.fr (DL.cutD ((TL c).map tw) (some ((1 : Nat) : Int)) none)) = _
    rw [cut_from]
  have iz : DL.iZip (aCons (pName 8) (aCons (pSl (pName 8) (oSome (pCon (.int 1))) oNone) aNil)) (oe r w h c x4 x5 x6 x7 (some (.d (.lst ((TL c).map tw)))) x9 x10) = some (zipD ((TL c).map tw) (((TL c).map tw).drop 1), true) := by
    unfold DL.iZip
    rw [aCons_ok (r := .fz (.lst ((TL c).map tw))) rfl (aCons_ok (rs := []) sl rfl)]
    rfl
  have zl := zip_len ((TL c).map tw) (((TL c).map tw).drop 1)
  rw [List.length_map] at zl
  have al := allT_ok (vs := [11, 12]) (bind := gTp 2 (gsCons (gNm 11) (gsCons (gNm 12) gsNil))) (P := pFd F_is_before (aCons (pName 0) (aCons (pName 11) (aCons (pName 12) aNil)))) iz (by omega) fun d hd => by
    obtain ⟨u, v, hu, hv, rfl, q⟩ := zip_next (tl_pair (hc.l4 h2) (by omega)) d hd
    obtain ⟨k, _, rfl⟩ := tl_mem hu
    obtain ⟨m, _, rfl⟩ := tl_mem hv
    have l1 := (s _ hu).2
    have l2 := (s _ hv).2
    have b := is_before_ok h1 h2 (v := turn c k) (w := turn c m) ⟨turn_gw hw.1 R k, by omega⟩ ⟨turn_gw hw.1 R m, by omega⟩ (by omega)
    rw [q] at b
    exact ⟨_, rfl, call3 (fa := pName 0) (fb := pName 11) (fc := pName 12) rfl rfl rfl b⟩
  exact (tNot_ok al).trans rfl
theorem o12_loop (x4 x5 x6 x7 x9 x10 : Option S) : ∃ y10, sFor (iRg1 (aCons (pCa gLen (aCons (pName 3) aNil)) aNil)) (gNm 10) B_o12 (oe r w h c x4 x5 x6 x7 (some (.d (.lst ((TL c).map tw)))) x9 x10) = .nx (oe r w h c x4 x5 x6 x7 (some (.d (.lst ((TL c).map tw)))) x9 y10) := by
  obtain ⟨hc, cl, hl, h4⟩ := o_core h1 h2 hw R wl
  obtain ⟨s, tl, n, d, z⟩ := o_tl h1 h2 hw R wl
  have c4 := hc.l4 h2
  have rg := rg1_len (len_tw (e := oe r w h c x4 x5 x6 x7 (some (.d (.lst ((TL c).map tw)))) x9 x10) (i := 3) (w := c) rfl) (by omega)
  obtain ⟨e', q, y, rfl⟩ := for_any (I := fun e => ∃ y, e = oe r w h c x4 x5 x6 x7 (some (.d (.lst ((TL c).map tw)))) x9 y) (bind := gNm 10) (fb := B_o12) rg (fun d hd e he => by
    obtain ⟨y, rfl⟩ := he
    obtain ⟨k, hk, rfl⟩ := List.mem_map.mp hd
    have kl := List.mem_range.mp hk
    refine ⟨oe r w h c x4 x5 x6 x7 (some (.d (.lst ((TL c).map tw)))) x9 (some (.d (.int (k : Nat)))), _, rfl, ckF ?_, _, rfl⟩
    have cz : c ≠ [] := fun z => by rw [z] at kl; exact absurd kl (Nat.not_lt_zero _)
    have cy : FG.Cyc c := by
      rcases R with ⟨_, _, q⟩ | ⟨_, q⟩
      · exact (cz q).elim
      · exact q
    have lt := FG.ledr_turn k cy
    have tlen : (turn c k).length = c.length := FG.turn_len c (by omega)
    have gt : Wd r (c.take k) := ⟨⟨by
      have := hc.1.1
      rw [← List.take_append_drop k c] at this
      exact FG.Red.left this, fun i hi => hc.1.2 i (List.mem_of_mem_take hi)⟩, by rw [List.length_take]; have := hc.2; omega⟩
    have lo := led_ok h1 h2 hc gt (by rw [lt, tlen]; have := hc.2; omega)
    rw [lt] at lo
    have sl : pSl (pName 3) oNone (oSome (pName 10)) (oe r w h c x4 x5 x6 x7 (some (.d (.lst ((TL c).map tw)))) x9 (some (.d (.int (k : Nat))))) = some (.fz (tw (c.take k))) := by
      show some (RV.fz (.tup (DL.cutD (dints c) none (some (k : Int))))) = _
      rw [cut_to, ← dints_take]
    have x1 : P_ld (oe r w h c x4 x5 x6 x7 (some (.d (.lst ((TL c).map tw)))) x9 (some (.d (.int (k : Nat))))) = some (.fz (tw (turn c k))) := call3 (fa := pName 0) (fb := pName 3) rfl rfl sl lo
    have t4 : L4 (turn c k) := gw4 h2 (turn_gw hw.1 R k)
    have x2 := trn_ok (c := c) (by omega) (e := oe r w h c x4 x5 x6 x7 (some (.d (.lst ((TL c).map tw)))) x9 (some (.d (.int (k : Nat))))) (i := 3) (j := 10) (k := k) rfl rfl
    have m := notIn_tw t4 fun v hv => (s v hv).1
    rw [decide_eq_true (tl_has kl)] at m
    exact (tOr_ok (a := false) (b := false) (tVal_ok ((p2_ok x1 (b := .fz (.lst ((TL c).map tw))) rfl).trans m)) fun _ => ne_f x1 x2 rfl (nice_tw t4) (dep_tw _)).trans rfl) ⟨x10, rfl⟩
  exact ⟨y, q⟩
theorem o13_ok (x4 x5 x6 x7 x9 x10 : Option S) : T_o13 (oe r w h c x4 x5 x6 x7 (some (.d (.lst ((TL c).map tw)))) x9 x10) = some false := by
  obtain ⟨hc, cl, hl, h4⟩ := o_core h1 h2 hw R wl
  have c4 := hc.l4 h2
  have t1 : tVal (p2 gNe (pName 3) (pTup aNil)) (oe r w h c x4 x5 x6 x7 (some (.d (.lst ((TL c).map tw)))) x9 x10) = some (!decide (c = [])) := tVal_ok ((p2_ok (a := .fz (tw c)) (b := .fz (tw [])) rfl rfl).trans (gNe_tw c4 L4.nil))
  refine (tAnd_ok (b := false) t1 fun q => ?_).trans (by rw [Bool.and_false])
  have cz : c ≠ [] := fun z => by rw [decide_eq_true z] at q; cases q
  obtain ⟨l, hl⟩ := FG.lp_ex cz
  have ln := tl_len cz hl
  have l0 := hl.1.1
  have l1 := hl.1.2.1
  have dv := FG.per_dvd hl.1
  have lc : pCa gLen (aCons (pName 3) aNil) (oe r w h c x4 x5 x6 x7 (some (.d (.lst ((TL c).map tw)))) x9 x10) = some (.fz (.int (c.length : Int))) := len_tw (i := 3) rfl
  have lt : pCa gLen (aCons (pName 8) aNil) (oe r w h c x4 x5 x6 x7 (some (.d (.lst ((TL c).map tw)))) x9 x10) = some (.fz (.int (l : Int))) := by
    show some (RV.fz (.int (((TL c).map tw).length : Nat))) = _
    rw [List.length_map, ln]
  have lp := law_part_ok c4 cz (by omega) hl
  have x1 : pFd F__law_part (aCons (pName 3) aNil) (oe r w h c x4 x5 x6 x7 (some (.d (.lst ((TL c).map tw)))) x9 x10) = some (.fz (tw (c.take l))) := call1 (a := tw c) rfl lp
  have x2 : pCa gLen (aCons (pFd F__law_part (aCons (pName 3) aNil)) aNil) (oe r w h c x4 x5 x6 x7 (some (.d (.lst ((TL c).map tw)))) x9 x10) = some (.fz (.int (l : Int))) := by
    refine (pCa_ok (aCons_ok (rs := []) x1 rfl)).trans ?_
    show some (RV.fz (.int ((dints (c.take l)).length : Nat))) = _
    rw [dints_length, List.length_take, Nat.min_eq_left l1]
  have x3 : p2 gFdiv (pCa gLen (aCons (pName 3) aNil)) (pCa gLen (aCons (pFd F__law_part (aCons (pName 3) aNil)) aNil)) (oe r w h c x4 x5 x6 x7 (some (.d (.lst ((TL c).map tw)))) x9 x10) = some (.fz (.int ((c.length / l : Nat) : Int))) := by
    refine (p2_ok lc x2).trans ?_
    have : gFdiv (.int (c.length : Int)) (.int (l : Int)) = some (.fz (.int ((c.length : Int) / (l : Int)))) := by
      refine if_pos ⟨?_, ?_⟩
      · show (0 : Int) < (l : Int)
        omega
      · rw [Int.natAbs_natCast]
        exact log_small (by omega)
    exact this.trans (by rw [Int.natCast_ediv])
  have tg : tVal (p2 gGt (pCa gLen (aCons (pName 3) aNil)) (pCon (.int 0))) (oe r w h c x4 x5 x6 x7 (some (.d (.lst ((TL c).map tw)))) x9 x10) = some true := by
    refine tVal_ok ((p2_ok lc (b := .fz (.int 0)) rfl).trans ?_)
    show some (RV.fz (.bl (decide ((0 : Int) < (c.length : Int))))) = _
    rw [decide_eq_true (by omega)]
  have x4' : pIf (tVal (p2 gGt (pCa gLen (aCons (pName 3) aNil)) (pCon (.int 0)))) (p2 gFdiv (pCa gLen (aCons (pName 3) aNil)) (pCa gLen (aCons (pFd F__law_part (aCons (pName 3) aNil)) aNil))) (pCon (.int 1)) (oe r w h c x4 x5 x6 x7 (some (.d (.lst ((TL c).map tw)))) x9 x10) = some (.fz (.int ((c.length / l : Nat) : Int))) := (pIf_t tg).trans x3
  have dl : c.length / l ≤ c.length := Nat.div_le_self _ _
  have x5' := (p2_ok lt x4').trans (gMul_int (i := (l : Int)) (j := ((c.length / l : Nat) : Int)) (by omega) (by rw [Int.natAbs_natCast]; exact Nat.lt_of_le_of_lt dl (by omega)))
  have e : (l : Int) * ((c.length / l : Nat) : Int) = (c.length : Int) := by
    rw [← Int.natCast_mul, Nat.mul_comm, dv]
  rw [e] at x5'
  exact ne_f lc x5' rfl (nice_int (by omega)) (by show 0 ≤ 64; omega)
theorem o14_ok (x4 x5 x6 x7 x9 x10 : Option S) : P_o14 (oe r w h c x4 x5 x6 x7 (some (.d (.lst ((TL c).map tw)))) x9 x10) = some (.fz (.bl true)) := by
  obtain ⟨hc, cl, hl, h4⟩ := o_core h1 h2 hw R wl
  obtain ⟨s, tl, n, d, z⟩ := o_tl h1 h2 hw R wl
  refine allP_ok (vs := [13]) (ds := (TL c).map tw) (b := true) rfl (by rw [List.length_map]; omega) fun d hd => ?_
  obtain ⟨v, hv, rfl⟩ := List.mem_map.mp hd
  obtain ⟨k, kl, rfl⟩ := tl_mem hv
  have tlen := (s _ hv).2
  have a := are_led_ok h1 h2 hw (o := turn c k) ⟨turn_gw hw.1 R k, by omega⟩ R (FG.rgo_turn R k)
  have rb : rotB c (turn c k) = true := FG.rotB_iff.mpr ⟨c.take k, c.drop k, (List.take_append_drop k c).symm, rfl⟩
  rw [rb] at a
  exact ⟨_, rfl, call3 (fa := pName 0) (fb := pName 1) (fc := pName 13) rfl rfl rfl a⟩
theorem one_right_ok : F__law_one_right [.d (.int r), .d (tw w)] = .ok (.d (.bl true)) [some (.d (.int r)), some (.d (tw w))] := by
  obtain ⟨hc, cl, hl, h4⟩ := o_core h1 h2 hw R wl
  obtain ⟨s, tl, n, d, z⟩ := o_tl h1 h2 hw R wl
  have c4 := hc.l4 h2
  have w4 := hw.l4 h2
  have q1 : sAsg (mPP (pFd F__law_ring (aCons (pName 1) aNil))) (gTp 2 (gsCons (gNm 2) (gsCons (gNm 3) gsNil))) [some (.d (.int r)), some (.d (tw w)), none, none, none, none, none, none, none, none, none, none, none, none] = .nx (oe r w h c none none none none none none none) :=
    asg_fz (call1 (fa := pName 1) (a := tw w) rfl (law_ring_rgo w4 hw.red (by omega) R)) rfl
  have q2 := ckF (o2_ok h1 h2 hw R wl)
  have q3 := ckF (o3_ok h1 h2 hw R wl)
  have q4 : sSet 4 (mPP (p2 gEq (pName 2) (pTup aNil))) (oe r w h c none none none none none none none) = .nx (oe r w h c (some (.d (.bl (decide (h = []))))) none none none none none none) :=
    set_fz ((p2_ok (a := .fz (tw h)) (b := .fz (tw [])) rfl rfl).trans (gEq_tw h4 L4.nil)) (by show 4 < 14; decide)
  have q5 := ckF (o5_ok h1 h2 hw R wl)
  obtain ⟨y5, y6, y7, q6⟩ := o6_loop h1 h2 hw R wl (some (.d (.bl (decide (h = []))))) none none none
  have q7 : sSet 8 (mPP (pFd F__law_turns (aCons (pName 0) (aCons (pName 3) aNil)))) (oe r w h c (some (.d (.bl (decide (h = []))))) y5 y6 y7 none none none) = .nx (oe r w h c (some (.d (.bl (decide (h = []))))) y5 y6 y7 (some (.d (.lst ((TL c).map tw)))) none none) :=
    set_fr (call2r (fa := pName 0) (fb := pName 3) rfl rfl (law_turns_ok h1 h2 hc.1.2 (by omega))) (by show 8 < 14; decide)
  have q8 : sSetO 9 (mPP (pFd F_ring_turns (aCons (pName 0) (aCons (pName 1) aNil)))) (oe r w h c (some (.d (.bl (decide (h = []))))) y5 y6 y7 (some (.d (.lst ((TL c).map tw)))) none none) = .nx (oe r w h c (some (.d (.bl (decide (h = []))))) y5 y6 y7 (some (.d (.lst ((TL c).map tw)))) (some (.lst ((TL c).map tw))) none) :=
    setO_fr (call2r (fa := pName 0) (fb := pName 1) rfl rfl (ring_turns_ok h1 h2 hw R)) (by show 9 < 14; decide)
  have q9 := ckF (o9_ok h1 h2 hw R wl (some (.d (.bl (decide (h = []))))) y5 y6 y7)
  have q10 : sExpr (mMt 9 gApp (mPP (pCon .non))) (oe r w h c (some (.d (.bl (decide (h = []))))) y5 y6 y7 (some (.d (.lst ((TL c).map tw)))) (some (.lst ((TL c).map tw))) none) = .nx (oe r w h c (some (.d (.bl (decide (h = []))))) y5 y6 y7 (some (.d (.lst ((TL c).map tw)))) (some (.lst ((TL c).map tw ++ [.non]))) none) :=
    appI_ok (i := 9) rfl rfl (by rw [List.length_map]; omega)
  have q11 := ckF (o11_ok h1 h2 hw R wl (some (.d (.bl (decide (h = []))))) y5 y6 y7 (some (.lst ((TL c).map tw ++ [.non]))) none)
  obtain ⟨y10, q12⟩ := o12_loop h1 h2 hw R wl (some (.d (.bl (decide (h = []))))) y5 y6 y7 (some (.lst ((TL c).map tw ++ [.non]))) none
  have q13 := ckF (o13_ok h1 h2 hw R wl (some (.d (.bl (decide (h = []))))) y5 y6 y7 (some (.lst ((TL c).map tw ++ [.non]))) y10)
  have q14 := ret_fz (o14_ok h1 h2 hw R wl (some (.d (.bl (decide (h = []))))) y5 y6 y7 (some (.lst ((TL c).map tw ++ [.non]))) y10)
  exact fn_rt (B := B__law_one_right) (n := 14) (lk := []) ((seq_nx q1).trans ((seq_nx q2).trans ((seq_nx q3).trans ((seq_nx q4).trans ((seq_nx q5).trans ((seq_nx q6).trans ((seq_nx q7).trans ((seq_nx q8).trans ((seq_nx q9).trans ((seq_nx q10).trans ((seq_nx q11).trans ((seq_nx q12).trans ((seq_nx q13).trans q14))))))))))))) rfl rfl
end
end G14

set_option maxHeartbeats 4000000
namespace G14
open PySem PySem.Spec PyProof.Rows L2 DL
open FG (Red red inv pw push stk ledr Rot rotB Rgo turn)
/-! # the law -/
theorem is_list_ok (xs : List D) : F_is_list [.d (.lst xs)] = .ok (.d (.bl true)) [some (.d (.lst xs))] := by rfl
section
variable {r : Int} (h1 : 1 ≤ r) (h2 : r ≤ 4)
include h1 h2
theorem want_words_ok {ws : List (List Int)} (h : ∀ w ∈ ws, Wd r w) (hl : ws.length ≤ 40) : F_want_words [.d (.int r), .d (.lst (ws.map tw))] = .ok (.d .non) [some (.d (.int r)), some (.d (.lst (ws.map tw)))] := by
  have t1 : tVal (pFd F_is_list (aCons (pName 1) aNil)) [some (.d (.int r)), some (.d (.lst (ws.map tw))), none] = some true := tVal_ok (call1 (a := .lst (ws.map tw)) rfl (is_list_ok _))
  have t2 : tVal (p2 gGt (pCa gLen (aCons (pName 1) aNil)) (pCon (.int 40))) [some (.d (.int r)), some (.d (.lst (ws.map tw))), none] = some false := by
    refine tVal_ok (b := false) ?_
    show some (RV.fz (.bl (decide ((40 : Int) < (((ws.map tw).length : Nat) : Int))))) = _
    rw [List.length_map, decide_eq_false (by omega)]
  have t3 : tVal (pCa gAll (aCons (pLc [2] (iSeq (pName 1)) (gNm 2) tAll (pFd F_is_word (aCons (pName 0) (aCons (pName 2) aNil)))) aNil)) [some (.d (.int r)), some (.d (.lst (ws.map tw))), none] = some true := by
    refine allT_ok (ds := ws.map tw) (b := true) rfl (by rw [List.length_map]; omega) fun d hd => ?_
    obtain ⟨w, hm, rfl⟩ := List.mem_map.mp hd
    have q := is_word_ok r w ((h w hm).l4 h2) (by have := (h w hm).2; omega)
    rw [gw_wordB (h w hm).1 (h w hm).2] at q
    exact ⟨_, rfl, call2 (fa := pName 0) (fb := pName 2) (a := .int r) (b := tw w) rfl rfl q⟩
  have tt := tOr_ok (a := false) (b := false) (tNot_ok t1) fun _ => (tOr_ok (a := false) (b := false) t2 fun _ => tNot_ok t3).trans rfl
  exact fn_nx (B := B_want_words) (n := 3) (lk := []) (e := [some (.d (.int r)), some (.d (.lst (ws.map tw))), none]) ((if_f tt).trans rfl) rfl rfl
theorem product_ok {ws : List (List Int)} (h : ∀ w ∈ ws, Wd r w) (hl : ws.length ≤ 40) (fl : ws.flatten.length ≤ 10000) (hr : (red ws.flatten).length ≤ 60) : F_product [.d (.int r), .d (.lst (ws.map tw))] = .ok (.d (tw (red ws.flatten))) [some (.d (.int r)), some (.d (.lst (ws.map tw)))] := by
  have l4 : L4 ws.flatten := fun i hi => by
    obtain ⟨w, hm, hi⟩ := List.mem_flatten.mp hi
    exact (h w hm).l4 h2 i hi
  have x1 : pFd F_want_rank (aCons (pName 0) aNil) [some (.d (.int r)), some (.d (.lst (ws.map tw)))] = some (.fz .non) := call1 rfl (want_rank_ok r h1 h2)
  have x2 : pFd F_want_words (aCons (pName 0) (aCons (pName 1) aNil)) [some (.d (.int r)), some (.d (.lst (ws.map tw)))] = some (.fz .non) := call2 rfl rfl (want_words_ok h1 h2 h hl)
  have x3 : pFd F_put_together (aCons (pName 1) aNil) [some (.d (.int r)), some (.d (.lst (ws.map tw)))] = some (.fz (tw (red ws.flatten))) := call1 (a := .lst (ws.map tw)) rfl (put_together_ok l4 (by omega))
  exact fn_rt (B := B_product) (n := 2) (lk := []) ((seq_nx (expr_fz x1)).trans ((seq_nx (expr_fz x2)).trans (ret_fz (call1 x3 (want_told_ok h1 h2 hr))))) rfl rfl
end
abbrev M_w (m : FM) : FM := mFd 3 F__law_word (arBw 0 (arFz (mPP (pName 1)) (arFz m arNil)))
abbrev M_d (n : Int) : FM := mFd 2 F__law_draw (arBw 0 (arFz (mPP (pCon (.int n))) arNil))
abbrev re (p : List D) (r : Int) (x2 x3 x4 x5 : Option S) : En := [some (.lst p), some (.d (.int r)), x2, x3, x4, x5]
abbrev P_u3 : FP := pFd F__law_product (aCons (pLst (aCons (pName 3) (aCons (pName 2) (aCons (pFd F__law_undone (aCons (pName 3) aNil)) aNil)))) aNil)
abbrev P_u5 : FP := pFd F__law_product (aCons (p2 DL.gAdd (p2 DL.gAdd (pLst (aCons (pName 3) aNil)) (p2 DL.gMul (pLst (aCons (pName 2) aNil)) (pCon (.int 3)))) (pLst (aCons (pFd F__law_undone (aCons (pName 3) aNil)) aNil))) aNil)
theorem three (h s : List Int) : red ([red (h ++ s ++ inv h), red (h ++ s ++ inv h), red (h ++ s ++ inv h)].flatten) = red (h ++ pw s 3 ++ inv h) := by
  have e : [red (h ++ s ++ inv h), red (h ++ s ++ inv h), red (h ++ s ++ inv h)].flatten = pw (red (h ++ s ++ inv h)) 3 := by simp [pw]
  rw [e]
  exact FG.red_of_eqv (FG.eqv_trans (FG.eqv_pw (FG.eqv_symm (FG.eqv_red _)) 3) (FG.eqv_led h s 2))
theorem right_ok {p : List D} (hp : Pot p) : ∃ p', F__law_right [.lst p] = .ok (.d (.bl true)) [some (.lst p')] := by
  obtain ⟨k, p1, hp1, k0, k1, e1⟩ := draw_ok hp 4 (by decide) (by decide)
  have h1 : 1 ≤ 1 + k := by omega
  have h2 : 1 + k ≤ 4 := by omega
  generalize hr : 1 + k = r at h1 h2
  have q1 : sSet 1 (m2 DL.gAdd (mPP (pCon (.int 1))) (M_d 4)) [some (.lst p), none, none, none, none, none] = .nx (re p1 r none none none none) := by
    simp [e1, hr]
  obtain ⟨a2, p2', hp2, a20, a21, e2⟩ := draw_ok hp1 4 (by decide) (by decide)
  obtain ⟨p3, s, hp3, gs, sl, e3⟩ := word_ok (r := r) (m := 1 + a2) hp2 h1 h2 (by omega) (by omega)
  have q2 : sSet 2 (M_w (m2 DL.gAdd (mPP (pCon (.int 1))) (M_d 4))) (re p1 r none none none none) = .nx (re p3 r (some (.d (tw s))) none none none) := by
    simp [e2, e3]
  obtain ⟨a4, p4, hp4, a40, a41, e4⟩ := draw_ok hp3 6 (by decide) (by decide)
  obtain ⟨p5, h, hp5, gh, hl, e5⟩ := word_ok (r := r) (m := a4) hp4 h1 h2 a40 (by omega)
  have q3 : sSet 3 (M_w (M_d 6)) (re p3 r (some (.d (tw s))) none none none) = .nx (re p5 r (some (.d (tw s))) (some (.d (tw h))) none none) := by
    simp [e4, e5]
  obtain ⟨a6, p6, hp6, a60, a61, e6⟩ := draw_ok hp5 25 (by decide) (by decide)
  obtain ⟨p7, w, hp7, gw, wl, e7⟩ := word_ok (r := r) (m := a6) hp6 h1 h2 a60 (by omega)
  have sl : s.length ≤ 4 := by omega
  have hl : h.length ≤ 5 := by omega
  have wl : w.length ≤ 24 := by omega
  have s4 := gw4 h2 gs
  have h4 := gw4 h2 gh
  have w4 := gw4 h2 gw
  have un : ∀ (p : List D) (x4 x5 : Option S), pFd F__law_undone (aCons (pName 3) aNil) (re p r (some (.d (tw s))) (some (.d (tw h))) x4 x5) = some (.fz (tw (inv h))) := fun p x4 x5 => call1 (a := tw h) rfl (law_undone_ok (by omega))
  obtain ⟨u3, hu3⟩ : ∃ u, u = red (h ++ s ++ inv h) := ⟨_, rfl⟩
  obtain ⟨u5, hu5⟩ : ∃ u, u = red (h ++ pw s 3 ++ inv h) := ⟨_, rfl⟩
  have l3 : u3.length ≤ 14 := by
    rw [hu3]
    refine Nat.le_trans (FG.red_len _) ?_
    rw [List.length_append, List.length_append, FG.inv_length]
    omega
  have l5 : u5.length ≤ 22 := by
    rw [hu5]
    refine Nat.le_trans (FG.red_len _) ?_
    rw [List.length_append, List.length_append, FG.inv_length, FG.pw_length]
    omega
  have let_h : ∀ i ∈ inv h, Let r i := (gw_inv gh).2
  have g3 : GW r u3 := by
    rw [hu3]
    refine gw_red fun i hi => ?_
    rcases List.mem_append.mp hi with q | q
    · rcases List.mem_append.mp q with q | q
      · exact gh.2 i q
      · exact gs.2 i q
    · exact let_h i q
  have mem_pw : ∀ (n : Nat), ∀ i ∈ pw s n, Let r i := fun n => by
    induction n with
    | zero => exact fun _ h => nomatch h
    | succ n ih =>
      intro i hi
      rcases List.mem_append.mp (show i ∈ s ++ pw s n from hi) with q | q
      · exact gs.2 i q
      · exact ih i q
  have g5 : GW r u5 := by
    rw [hu5]
    refine gw_red fun i hi => ?_
    rcases List.mem_append.mp hi with q | q
    · rcases List.mem_append.mp q with q | q
      · exact gh.2 i q
      · exact mem_pw 3 i q
    · exact let_h i q
  have x3 : ∀ (p : List D) (x4 x5 : Option S), P_u3 (re p r (some (.d (tw s))) (some (.d (tw h))) x4 x5) = some (.fz (tw u3)) := fun p x4 x5 => by
    rw [hu3]
    exact call1r (lst3_ok (f := pName 3) (g := pName 2) (x := tw h) (y := tw s) rfl rfl (un p x4 x5)) (prod3_ok h4 s4 h4.inv (by rw [FG.inv_length]; omega))
  have q4 : sSet 4 (mLst (lCons (mPP (pTup aNil)) (lCons (M_w (M_d 25)) (lCons (mPP (pName 2)) (lCons (mPP P_u3) lNil))))) (re p5 r (some (.d (tw s))) (some (.d (tw h))) none none) = .nx (re p7 r (some (.d (tw s))) (some (.d (tw h))) (some (.d (.lst [tw [], tw w, tw s, tw u3]))) none) := by
    have ew : M_w (M_d 25) (re p5 r (some (.d (tw s))) (some (.d (tw h))) none none) = .ok (.d (tw w)) (re p7 r (some (.d (tw s))) (some (.d (tw h))) none none) := by simp [e6, e7]
    have l := lCons_fz (f := pTup aNil) (x := tw []) (e := re p5 r (some (.d (tw s))) (some (.d (tw h))) none none) rfl (lCons_m ew (lCons_fz (f := pName 2) (x := tw s) rfl (lCons_fz (x3 p7 none none) (show lNil _ = .ok [] _ from rfl))))
    exact set_m (mLst_ok l (by show 4 ≤ 1000; decide)) (by show 4 < 6; decide)
  obtain ⟨a8, p8, hp8, a80, a81, e8⟩ := draw_ok hp7 5 (by decide) (by decide)
  obtain ⟨n, hn⟩ : ∃ n : Nat, 1 + a8 = (n : Int) := ⟨(1 + a8).toNat, by omega⟩
  obtain ⟨u4, hu4⟩ : ∃ u, u = red (pw s n) := ⟨_, rfl⟩
  have n5 : n ≤ 5 := by omega
  have l4 : u4.length ≤ 20 := by
    rw [hu4]
    refine Nat.le_trans (FG.red_len _) ?_
    rw [FG.pw_length]
    exact Nat.mul_le_mul n5 sl
  have g4 : GW r u4 := by
    rw [hu4]
    exact gw_red (mem_pw n)
  obtain ⟨Z, hZ⟩ : ∃ Z : Option S, Z = some (.d (.lst [tw [], tw w, tw s, tw u3])) := ⟨_, rfl⟩
  have q5 : sSet 4 (m2 DL.gAdd (mPP (pName 4)) (mLst (lCons (mFd 1 F__law_product (arFz (m2 DL.gMul (mPP (pLst (aCons (pName 2) aNil))) (m2 DL.gAdd (mPP (pCon (.int 1))) (M_d 5))) arNil)) (lCons (mPP P_u5) lNil)))) (re p7 r (some (.d (tw s))) (some (.d (tw h))) (some (.d (.lst [tw [], tw w, tw s, tw u3]))) none) = .nx (re p8 r (some (.d (tw s))) (some (.d (tw h))) (some (.d (.lst [tw [], tw w, tw s, tw u3, tw u4, tw u5]))) none) := by
    rw [← hZ]
    have pr4 : F__law_product [.d (.lst (List.replicate n (tw s)))] = .ok (.d (tw u4)) [some (.d (.lst (List.replicate n (tw s))))] := by
      have lp := law_product_ok (ws := List.replicate n s) (by rw [flat_rep]; exact s4.pw n) (by
        rw [flat_rep, FG.pw_length]
        have := Nat.mul_le_mul n5 sl
        omega)
      rw [flat_rep, ← hu4, List.map_replicate] at lp
      exact lp
    have mu : DL.gMul (.lst [tw s]) (.int (1 + a8)) = some (.fr (List.replicate n (tw s))) := by
      rw [hn, gMul_rep _ (by omega)]
      rfl
    have m4 : mFd 1 F__law_product (arFz (m2 DL.gMul (mPP (pLst (aCons (pName 2) aNil))) (m2 DL.gAdd (mPP (pCon (.int 1))) (M_d 5))) arNil) (re p7 r (some (.d (tw s))) (some (.d (tw h))) Z none) = .ok (.d (tw u4)) (re p8 r (some (.d (tw s))) (some (.d (tw h))) Z none) := by
      have d8 : M_d 5 (re p7 r (some (.d (tw s))) (some (.d (tw h))) Z none) = .ok (.d (.int a8)) (re p8 r (some (.d (tw s))) (some (.d (tw h))) Z none) := by simp [e8]
      have d9 := m2_fz (g := DL.gAdd) (mpp_fz (f := pCon (.int 1)) (e := re p7 r (some (.d (tw s))) (some (.d (tw h))) Z none) (x := .int 1) rfl) d8 (x := .int (1 + a8)) rfl
      have d10 := m2_fr (g := DL.gMul) (mpp_fr (f := pLst (aCons (pName 2) aNil)) (e := re p7 r (some (.d (tw s))) (some (.d (tw h))) Z none) (xs := [tw s]) rfl) d9 mu
      exact mfd1 d10 pr4
    have y1 : p2 DL.gMul (pLst (aCons (pName 2) aNil)) (pCon (.int 3)) (re p8 r (some (.d (tw s))) (some (.d (tw h))) Z none) = some (.fr [tw s, tw s, tw s]) := (p2_ok (a := .fr [tw s]) (b := .fz (.int 3)) rfl rfl).trans ((gMul_rep _ (by decide)).trans rfl)
    have y2 : p2 DL.gAdd (pLst (aCons (pName 3) aNil)) (p2 DL.gMul (pLst (aCons (pName 2) aNil)) (pCon (.int 3))) (re p8 r (some (.d (tw s))) (some (.d (tw h))) Z none) = some (.fr [tw h, tw s, tw s, tw s]) := (p2_ok (a := .fr [tw h]) rfl y1).trans rfl
    have y3 : pLst (aCons (pFd F__law_undone (aCons (pName 3) aNil)) aNil) (re p8 r (some (.d (tw s))) (some (.d (tw h))) Z none) = some (.fr [tw (inv h)]) := pLst_ok (aCons_ok (rs := []) (un p8 Z none) rfl) rfl (by show 1 ≤ 1000; decide)
    have y4 := (p2_ok (g := DL.gAdd) y2 y3).trans (show DL.gAdd (.lst [tw h, tw s, tw s, tw s]) (.lst [tw (inv h)]) = some (.fr [tw h, tw s, tw s, tw s, tw (inv h)]) from rfl)
    have fl : [h, s, s, s, inv h].flatten = h ++ pw s 3 ++ inv h := by simp [pw]
    have lp := law_product_ok (ws := [h, s, s, s, inv h]) (by rw [fl]; exact (h4.app (s4.pw 3)).app h4.inv) (by
      rw [fl, List.length_append, List.length_append, FG.inv_length, FG.pw_length]
      omega)
    rw [fl, ← hu5] at lp
    have m5 : P_u5 (re p8 r (some (.d (tw s))) (some (.d (tw h))) Z none) = some (.fz (tw u5)) := call1r y4 lp
    have l := lCons_m m4 (lCons_fz m5 (show lNil _ = .ok [] _ from rfl))
    have ll := mLst_ok l (by show 2 ≤ 1000; decide)
    have m : m2 DL.gAdd (mPP (pName 4)) (mLst (lCons (mFd 1 F__law_product (arFz (m2 DL.gMul (mPP (pLst (aCons (pName 2) aNil))) (m2 DL.gAdd (mPP (pCon (.int 1))) (M_d 5))) arNil)) (lCons (mPP P_u5) lNil))) (re p7 r (some (.d (tw s))) (some (.d (tw h))) Z none) = .ok (.lst [tw [], tw w, tw s, tw u3, tw u4, tw u5]) (re p8 r (some (.d (tw s))) (some (.d (tw h))) Z none) := by
      have n4 : pName 4 (re p7 r (some (.d (tw s))) (some (.d (tw h))) Z none) = some (.fz (.lst [tw [], tw w, tw s, tw u3])) := by rw [hZ]; rfl
      exact m2_fr (mpp_fz n4) ll rfl
    exact set_m m (by show 4 < 6; decide)
  have q6 : sIf (tMT (DL.tNot (tVal (pCa gAll (aCons (pLc [5] (iSeq (pName 4)) (gNm 5) tAll (pFd F__law_one_right (aCons (pName 1) (aCons (pName 5) aNil)))) aNil))))) (sRet (mPP (pCon (.bl false)))) sNil (re p8 r (some (.d (tw s))) (some (.d (tw h))) (some (.d (.lst [tw [], tw w, tw s, tw u3, tw u4, tw u5]))) none) = .nx (re p8 r (some (.d (tw s))) (some (.d (tw h))) (some (.d (.lst [tw [], tw w, tw s, tw u3, tw u4, tw u5]))) none) := by
    refine ckF ((tNot_ok (b := true) ?_).trans rfl)
    refine allT_ok (ds := [[], w, s, u3, u4, u5].map tw) (b := true) rfl (by show 6 ≤ 10000; decide) fun d hd => ?_
    obtain ⟨v, hv, rfl⟩ := List.mem_map.mp hd
    have g : Wd r v ∧ v.length ≤ 30 := by
      simp only [List.mem_cons, List.not_mem_nil, or_false] at hv
      rcases hv with e | e | e | e | e | e <;> rw [e]
      · exact ⟨wd_nil r, Nat.zero_le _⟩
      · exact ⟨⟨gw, by omega⟩, by omega⟩
      · exact ⟨⟨gs, by omega⟩, by omega⟩
      · exact ⟨⟨g3, by omega⟩, by omega⟩
      · exact ⟨⟨g4, by omega⟩, by omega⟩
      · exact ⟨⟨g5, by omega⟩, by omega⟩
    obtain ⟨h', c', R⟩ := FG.rgo_ex g.1.1.1 (g.1.l4 h2).z
    exact ⟨_, rfl, call2 (fa := pName 1) (fb := pName 5) (a := .int r) (b := tw v) rfl rfl (one_right_ok h1 h2 g.1 R g.2)⟩
  have q7 : sRet (mPP (p2 gEq (pFd F_product (aCons (pName 1) (aCons (p2 DL.gMul (pLst (aCons (p2 gIx (pName 4) (pCon (.int 3))) aNil)) (pCon (.int 3))) aNil))) (p2 gIx (pName 4) (pCon (.int 5))))) (re p8 r (some (.d (tw s))) (some (.d (tw h))) (some (.d (.lst [tw [], tw w, tw s, tw u3, tw u4, tw u5]))) none) = .rt (.d (.bl true)) (re p8 r (some (.d (tw s))) (some (.d (tw h))) (some (.d (.lst [tw [], tw w, tw s, tw u3, tw u4, tw u5]))) none) := by
    have y1 : p2 DL.gMul (pLst (aCons (p2 gIx (pName 4) (pCon (.int 3))) aNil)) (pCon (.int 3)) (re p8 r (some (.d (tw s))) (some (.d (tw h))) (some (.d (.lst [tw [], tw w, tw s, tw u3, tw u4, tw u5]))) none) = some (.fr [tw u3, tw u3, tw u3]) := (p2_ok (a := .fr [tw u3]) (b := .fz (.int 3)) rfl rfl).trans ((gMul_rep _ (by decide)).trans rfl)
    have th := three h s
    rw [← hu3, ← hu5] at th
    have pr := product_ok h1 h2 (ws := [u3, u3, u3]) (fun v hv => by
      simp only [List.mem_cons, List.not_mem_nil, or_false, or_self] at hv
      rw [hv]
      exact ⟨g3, by omega⟩) (by show 3 ≤ 40; decide) (by
        show (u3 ++ (u3 ++ (u3 ++ []))).length ≤ 10000
        rw [List.length_append, List.length_append, List.length_append]
        show _ + (_ + (_ + 0)) ≤ _
        omega) (by rw [th]; omega)
    rw [th] at pr
    have y2 : pFd F_product (aCons (pName 1) (aCons (p2 DL.gMul (pLst (aCons (p2 gIx (pName 4) (pCon (.int 3))) aNil)) (pCon (.int 3))) aNil)) (re p8 r (some (.d (tw s))) (some (.d (tw h))) (some (.d (.lst [tw [], tw w, tw s, tw u3, tw u4, tw u5]))) none) = some (.fz (tw u5)) :=
      (pFd_ok (aCons_ok (r := .fz (.int r)) rfl (aCons_ok (rs := []) y1 rfl))).trans (callP_fz pr (.inl rfl))
    exact ret_fz ((p2_ok y2 (b := .fz (tw u5)) rfl).trans (eq_same (nice_tw (gw4 h2 g5)) (dep_tw _)))
  exact ⟨p8, fn_rt (B := B__law_right) (n := 6) (lk := [0]) ((seq_nx q1).trans ((seq_nx q2).trans ((seq_nx q3).trans ((seq_nx q4).trans ((seq_nx q5).trans ((seq_nx q6).trans q7)))))) rfl rfl⟩
end G14

set_option maxHeartbeats 4000000
namespace G14
open PySem PySem.Spec PyProof.Rows L2 DL
abbrev M_r : FM := mFd 1 F__law_right (arOw (mPP (pFd F__law_pot (aCons (pName 0) (aCons (pName 1) aNil)))) arNil)
theorem mr_ok (ns : List Int) {t : Int} (t0 : 0 ≤ t) (t1 : t ≤ 1) : M_r [some (.d (.ro (dints ns))), some (.d (.int t))] = .ok (.d (.bl true)) [some (.d (.ro (dints ns))), some (.d (.int t))] := by
  obtain ⟨q, hq, e1⟩ := pot_ok ns t0 t1
  obtain ⟨p', e2⟩ := right_ok hq
  have x1 : pFd F__law_pot (aCons (pName 0) (aCons (pName 1) aNil)) [some (.d (.ro (dints ns))), some (.d (.int t))] = some (.fr q) :=
    (pFd_ok (rs := [.fz (.ro (dints ns)), .fz (.int t)]) rfl).trans (callP_fr e1 rfl)
  unfold M_r mFd arOw mPP
  rw [x1]
  simp [e2]
theorem law_list (ns : List Int) : ∀ ds : List D, (∀ d ∈ ds, ∃ t : Int, d = .int t ∧ 0 ≤ t ∧ t ≤ 1) → lcM (gNm 1) tAll M_r [1] ds [some (.d (.ro (dints ns))), none] = .ok ((ds.map fun _ => true).map bl) [some (.d (.ro (dints ns))), none]
  | [], _ => rfl
  | d :: ds, h => by
    obtain ⟨t, rfl, t0, t1⟩ := h d List.mem_cons_self
    have ih := law_list ns ds fun x hx => h x (List.mem_cons_of_mem _ hx)
    have step : lcM (gNm 1) tAll M_r [1] (.int t :: ds) [some (.d (.ro (dints ns))), none] = (match M_r [some (.d (.ro (dints ns))), some (.d (.int t))] with
      | .ok s e2 => OL.cons s.view (lcM (gNm 1) tAll M_r [1] ds (wipeE e2 [1]))
      | _ => .stuck) := rfl
    rw [step, mr_ok ns t0 t1]
    show OL.cons (.bl true) (lcM (gNm 1) tAll M_r [1] ds [some (.d (.ro (dints ns))), none]) = _
    rw [ih]
    rfl
theorem law_true (ns : List Int) : ∃ e, F_law [.d (.ro (dints ns))] = .ok (.d (.bl true)) e := by
  have rg : ∃ n : Nat, n ≤ 2 ∧ iRg1 (aCons (pCa gMax2 (aCons (pCon (.int 1)) (aCons (pCa gMin2 (aCons (pCon (.int 2)) (aCons (pCa gLen (aCons (pName 0) aNil)) aNil))) aNil))) aNil) [some (.d (.ro (dints ns))), none] = some (rangeD 0 n, true) := by
    have x1 : pCa gLen (aCons (pName 0) aNil) [some (.d (.ro (dints ns))), none] = some (.fz (.int (ns.length : Int))) := by
      show some (RV.fz (.int ((dints ns).length : Nat))) = _
      rw [dints_length]
    have x2 : pCa gMin2 (aCons (pCon (.int 2)) (aCons (pCa gLen (aCons (pName 0) aNil)) aNil)) [some (.d (.ro (dints ns))), none] = some (.fz (.int (if (ns.length : Int) < 2 then (ns.length : Int) else 2))) :=
      (pCa_ok (aCons_ok (r := .fz (.int 2)) rfl (aCons_ok (rs := []) x1 rfl))).trans rfl
    have x3 : pCa gMax2 (aCons (pCon (.int 1)) (aCons (pCa gMin2 (aCons (pCon (.int 2)) (aCons (pCa gLen (aCons (pName 0) aNil)) aNil))) aNil)) [some (.d (.ro (dints ns))), none] = some (.fz (.int (if (if (ns.length : Int) < 2 then (ns.length : Int) else 2) > 1 then (if (ns.length : Int) < 2 then (ns.length : Int) else 2) else 1))) :=
      (pCa_ok (aCons_ok (r := .fz (.int 1)) rfl (aCons_ok (rs := []) x2 rfl))).trans rfl
    have c : (if (if (ns.length : Int) < 2 then (ns.length : Int) else 2) > 1 then (if (ns.length : Int) < 2 then (ns.length : Int) else 2) else 1) = 1 ∨ (if (if (ns.length : Int) < 2 then (ns.length : Int) else 2) > 1 then (if (ns.length : Int) < 2 then (ns.length : Int) else 2) else 1) = 2 := by
      repeat' split
      all_goals omega
    rcases c with c | c
    · rw [c] at x3
      refine ⟨1, by decide, ?_⟩
      unfold iRg1
      rw [aCons_ok (rs := []) x3 rfl]
      rfl
    · rw [c] at x3
      refine ⟨2, by decide, ?_⟩
      unfold iRg1
      rw [aCons_ok (rs := []) x3 rfl]
      rfl
  obtain ⟨n, hn, rg⟩ := rg
  have l := law_list ns (rangeD 0 n) fun d hd => by
    obtain ⟨i, hi, rfl⟩ := List.mem_map.mp hd
    have := List.mem_range.mp hi
    exact ⟨_, rfl, by omega, by omega⟩
  have hl : (((rangeD 0 n).map fun _ => true).map bl).length ≤ SZ := by
    unfold rangeD
    rw [List.length_map, List.length_map, List.length_map, List.length_range]
    unfold SZ
    omega
  have m : mLc [1] (iRg1 (aCons (pCa gMax2 (aCons (pCon (.int 1)) (aCons (pCa gMin2 (aCons (pCon (.int 2)) (aCons (pCa gLen (aCons (pName 0) aNil)) aNil))) aNil))) aNil)) (gNm 1) tAll M_r [some (.d (.ro (dints ns))), none] = .ok (.lst (((rangeD 0 n).map fun _ => true).map bl)) [some (.d (.ro (dints ns))), none] := by
    unfold mLc
    rw [rg]
    show (match lcM (gNm 1) tAll M_r [1] (rangeD 0 n) [some (.d (.ro (dints ns))), none] with
      | .ok xs e' => if xs.length ≤ SZ then Out.ok (.lst xs) (unw [1] [some (.d (.ro (dints ns))), none] e') else .stuck
      | _ => .stuck) = _
    rw [l]
    show (if (((rangeD 0 n).map fun _ => true).map bl).length ≤ SZ then Out.ok (.lst (((rangeD 0 n).map fun _ => true).map bl)) _ else .stuck) = _
    rw [if_pos hl]
    rfl
  have al : gAll [.lst (((rangeD 0 n).map fun _ => true).map bl)] = some (.fz (.bl true)) := by
    rw [gAll_bl]
    congr 3
    rw [List.all_map]
    exact List.all_eq_true.mpr fun _ _ => rfl
  have b : B_law [some (.d (.ro (dints ns))), none] = .rt (.d (.bl true)) [some (.d (.ro (dints ns))), none] := by
    unfold B_law sRet mCa lCons
    rw [m]
    show (rvO (gAll [.lst (((rangeD 0 n).map fun _ => true).map bl)]) [some (.d (.ro (dints ns))), none]).st _ = _
    rw [al]
    rfl
  refine ⟨[some (.d (.ro (dints ns)))], ?_⟩
  unfold F_law fnF
  rw [show lkOk [] 0 [.d (.ro (dints ns))] = true from rfl, if_pos rfl, show enter 2 [.d (.ro (dints ns))] = [some (.d (.ro (dints ns))), none] from rfl, b]
  rfl
end G14

set_option maxHeartbeats 0
theorem PySem.Challenge.cw_wordhandfuls_k14_whole_rings_heads_and_t_holds : PySem.Challenge.rw_wordhandfuls_k14_whole_rings_heads_and_t.Holds := by
  exact G14.holds_of fun ns _ => G14.law_true ns
