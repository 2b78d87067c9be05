import PyProof.Rows.All
import Wide.All
import OpenK.AllK
import Wide.FinOn
import HandS.ForMost
import HandS.WordsExc
import HandS.Lambda
import HandS.NestedK
import HandS.EndTab
import HandS.TupMul
import HandS.Deep
import HandS.TupAny
import HandS.Call
import HandS.List
import HandS.WideBits
import HandS.Style
import HandS.Wide
import HandS.IsInst
import HandS.Replace
import HandS.Zip
import HandS.RaiseMore
import HandS.Defaults
import HandS.HeadHook2
import HandS.Text
import HandS.Strs
import HandS.MapObj
import HandS.Dict
import PyProof.SeqIndex
import PyProof.Rows.StrRev
import HandS.Exc
import HandS.ExcInit
import KE.KExcIs
import HandS.Ends
import KE.KStateDown
import HandS.More
import HandS.Words
import HandS.Head0
import HandS.Head1
import HandS.Head2
import HandS.HeadHook1
import KE.DataMinKey
import KE.DataCmp
import HandS.SortKw
import KE.SortKeyHeap
import KE.SortCalls
import KE.GoesEnum
import HandS.SetFor
import KE.DataFind
import HandS.DictComp
import HandS.Conv
import KE.SortData
import KE.KExcInit
import PySem.Challenge.RW_wordhandfuls_k76_whole_powers_and_least
import Lean
import PyProof.FitsInt
import PyProof.ReprBulk
import KE.DatumOrd
set_option Elab.async false
set_option linter.all false
set_option maxRecDepth 100000
set_option maxHeartbeats 2000000
namespace DL
open PySem PySem.Spec PyProof.Rows L2

/-! ## data -/
inductive D where
  | non | bl (b : Bool) | int (i : Int) | str (x : Str) | tup (xs : List D) | lst (xs : List D) | ro (xs : List D) | dic (ks : List Key) (xs : List D)

/-- what a value is, frozen: no list of it is among the owned ones W -/
def KL (K : PySem.W.Frag) (a : Addr) (vs : List V) : Prop := SqL K (fun _ => none) a vs
def LsF (W : List Addr) (H : Hp) (a : Addr) (vs : List V) : Prop := H a = some (.lst vs) ∧ a ∉ W
/-- a list that nobody may write: the script, one of the module's -/
def RoF (K : PySem.W.Frag) (H : Hp) (a : Addr) (vs : List V) : Prop := (∃ o, H a = some (.frz o (.lst vs))) ∨ KL K a vs
/-- an object without a dict of its own -/
def NoD (K : PySem.W.Frag) (H : Hp) (a : Addr) : Prop := (∃ o u, H a = some (.frz o u) ∧ o.dict = none) ∨ ∃ o, K.lookup a = some o ∧ o.dict = none
/-- a tuple, exactly -/
def TqT (K : PySem.W.Frag) (H : Hp) (a : Addr) (vs : List V) : Prop := SqT K H a vs ∧ NoD K H a
mutual
def Rp (W : List Addr) (K : PySem.W.Frag) (H : Hp) : D → V → Prop
  | .non, v => v = .non
  | .bl b, v => v = .bl b
  | .int i, v => v = .int i
  | .str x, v => v = .str x
  | .tup xs, v => ∃ a vs, v = .ref a ∧ TqT K H a vs ∧ RpL W K H xs vs
  | .lst xs, v => ∃ a vs, v = .ref a ∧ LsF W H a vs ∧ RpL W K H xs vs
  | .ro xs, v => ∃ a vs, v = .ref a ∧ RoF K H a vs ∧ RpL W K H xs vs
  | .dic ks xs, v => ∃ (a : Addr) (kvs : List (Key × V)), v = .ref a ∧ (H a = some (.dK kvs) ∧ a ∉ W) ∧ kvs.map (·.1) = ks ∧ RpL W K H xs (kvs.map (·.2))
def RpL (W : List Addr) (K : PySem.W.Frag) (H : Hp) : List D → List V → Prop
  | [], vs => vs = []
  | d :: ds, vs => ∃ v r, vs = v :: r ∧ Rp W K H d v ∧ RpL W K H ds r
end

theorem KL.seq {K : PySem.W.Frag} {H : Hp} {a : Addr} {vs : List V} (h : KL K a vs) : SqL K H a vs := by
  rcases h with (h | ⟨o, h⟩) | h
  · cases h
  · cases h
  · exact .inr h
theorem LsF.seq {W : List Addr} {K : PySem.W.Frag} {H : Hp} {a : Addr} {vs : List V} (h : LsF W H a vs) : SqL K H a vs := .of h.1
theorem RoF.seq {K : PySem.W.Frag} {H : Hp} {a : Addr} {vs : List V} (h : RoF K H a vs) : SqL K H a vs := by
  rcases h with h | h
  · exact .inl (.inr h)
  · exact h.seq

section
variable {W W' : List Addr} {K : PySem.W.Frag} {H H' : Hp}
theorem RpL.length : ∀ {ds : List D} {vs : List V}, RpL W K H ds vs → ds.length = vs.length
  | [], vs, h => by have e : vs = [] := h; subst e; rfl
  | d :: ds, vs, h => by
    obtain ⟨v, r, e, _, h2⟩ := h
    rw [e, List.length_cons, List.length_cons, RpL.length h2]
theorem RpL.get : ∀ {ds : List D} {vs : List V} {i : Nat} {d : D}, RpL W K H ds vs → ds[i]? = some d → ∃ v, vs[i]? = some v ∧ Rp W K H d v
  | [], _, _, _, _, e => by simp at e
  | d :: ds, vs, i, x, h, e => by
    obtain ⟨v, r, rfl, h1, h2⟩ := h
    cases i with
    | zero => simp at e; subst e; exact ⟨v, rfl, h1⟩
    | succ i =>
      obtain ⟨u, hu, r2⟩ := RpL.get (i := i) h2 (by simpa using e)
      exact ⟨u, by simpa using hu, r2⟩
theorem RpL.append : ∀ {ds es : List D} {vs us : List V}, RpL W K H ds vs → RpL W K H es us → RpL W K H (ds ++ es) (vs ++ us)
  | [], es, vs, us, h, q => by have e : vs = [] := h; subst e; exact q
  | d :: ds, es, vs, us, h, q => by
    obtain ⟨v, r, rfl, h1, h2⟩ := h
    exact ⟨v, r ++ us, rfl, h1, RpL.append h2 q⟩
theorem RpL.one {d : D} {v : V} (h : Rp W K H d v) : RpL W K H [d] [v] := ⟨v, [], rfl, h, rfl⟩
theorem RpL.take : ∀ (n : Nat) {ds : List D} {vs : List V}, RpL W K H ds vs → RpL W K H (ds.take n) (vs.take n)
  | 0, _, _, _ => rfl
  | n + 1, [], vs, h => by have e : vs = [] := h; subst e; rfl
  | n + 1, d :: ds, vs, h => by
    obtain ⟨v, r, rfl, h1, h2⟩ := h
    exact ⟨v, r.take n, rfl, h1, RpL.take n h2⟩
theorem RpL.drop : ∀ (n : Nat) {ds : List D} {vs : List V}, RpL W K H ds vs → RpL W K H (ds.drop n) (vs.drop n)
  | 0, _, _, h => h
  | n + 1, [], vs, h => by have e : vs = [] := h; subst e; rfl
  | n + 1, d :: ds, vs, h => by
    obtain ⟨v, r, rfl, h1, h2⟩ := h
    exact RpL.drop n h2
theorem RpL.reverse : ∀ {ds : List D} {vs : List V}, RpL W K H ds vs → RpL W K H ds.reverse vs.reverse
  | [], vs, h => by have e : vs = [] := h; subst e; rfl
  | d :: ds, vs, h => by
    obtain ⟨v, r, rfl, h1, h2⟩ := h
    rw [List.reverse_cons, List.reverse_cons]
    exact (RpL.reverse h2).append (.one h1)
theorem RpL.set : ∀ {ds : List D} {vs : List V} (i : Nat) {d : D} {v : V}, RpL W K H ds vs → Rp W K H d v → RpL W K H (ds.set i d) (vs.set i v)
  | [], vs, i, d, v, h, _ => by have e : vs = [] := h; subst e; exact rfl
  | x :: ds, vs, i, d, v, h, q => by
    obtain ⟨y, r, rfl, h1, h2⟩ := h
    cases i with
    | zero => exact ⟨v, r, rfl, q, h2⟩
    | succ i => exact ⟨y, r.set i v, rfl, h1, RpL.set i h2 q⟩
theorem RpL.eraseIdx : ∀ {ds : List D} {vs : List V} (i : Nat), RpL W K H ds vs → RpL W K H (ds.eraseIdx i) (vs.eraseIdx i)
  | [], vs, i, h => by have e : vs = [] := h; subst e; exact rfl
  | x :: ds, vs, i, h => by
    obtain ⟨y, r, rfl, h1, h2⟩ := h
    cases i with
    | zero => exact h2
    | succ i => exact ⟨y, r.eraseIdx i, rfl, h1, RpL.eraseIdx i h2⟩

/-- no table of code objects -/
def nt : HO → Bool
  | .tbl _ => false
  | _ => true
/-- from W, H to W', H': what is not owned stands, and stays not owned -/
structure Ex (W : List Addr) (H : Hp) (W' : List Addr) (H' : Hp) : Prop where
  wm : ∀ a ∈ W, Mut (H a)
  keep : ∀ a o, H a = some o → a ∉ W → nt o = true → H' a = some o ∧ a ∉ W'
theorem Ex.refl (m : ∀ a ∈ W, Mut (H a)) : Ex W H W H := ⟨m, fun _ _ e n _ => ⟨e, n⟩⟩
theorem Ex.rd (x : Ex W H W' H') {a : Addr} {o : HO} (nm : ¬ Mut (some o)) (h : Rd H a o) (no : nt o = true := by rfl) : Rd H' a o := by
  rcases h with h | ⟨ob, h⟩
  · refine .inl (x.keep a _ h (fun hw => nm ?_) no).1
    have := x.wm a hw
    rw [h] at this
    exact this
  · refine .inr ⟨ob, (x.keep a _ h (fun hw => ?_) rfl).1⟩
    have := x.wm a hw
    rw [h] at this
    exact this
theorem Ex.sqT (x : Ex W H W' H') {a : Addr} {vs : List V} (h : SqT K H a vs) : SqT K H' a vs := by
  rcases h with h | h
  · exact .inl (x.rd (fun z => z) h)
  · exact .inr h
theorem Ex.noD (x : Ex W H W' H') {a : Addr} (h : NoD K H a) : NoD K H' a := by
  rcases h with ⟨o, u, h, hd⟩ | h
  · refine .inl ⟨o, u, (x.keep a _ h (fun hw => ?_) rfl).1, hd⟩
    have := x.wm a hw
    rw [h] at this
    exact this
  · exact .inr h
theorem Ex.tqT (x : Ex W H W' H') {a : Addr} {vs : List V} (h : TqT K H a vs) : TqT K H' a vs := ⟨x.sqT h.1, x.noD h.2⟩
theorem TqT.frz {a : Addr} {vs : List V} {o : Obj} (hd : o.dict = none) : TqT K (upd H a (.frz o (.tup vs))) a vs := ⟨.inl (.inr ⟨o, upd_same⟩), .inl ⟨o, _, upd_same, hd⟩⟩
theorem Ex.lsF (x : Ex W H W' H') {a : Addr} {vs : List V} (h : LsF W H a vs) : LsF W' H' a vs := x.keep a _ h.1 h.2 rfl
theorem Ex.roF (x : Ex W H W' H') {a : Addr} {vs : List V} (h : RoF K H a vs) : RoF K H' a vs := by
  rcases h with ⟨o, h⟩ | h
  · refine .inl ⟨o, (x.keep a _ h (fun hw => ?_) rfl).1⟩
    have := x.wm a hw
    rw [h] at this
    exact this
  · exact .inr h
mutual
theorem Rp.mono (x : Ex W H W' H') : ∀ (d : D) {v : V}, Rp W K H d v → Rp W' K H' d v
  | .non, _, h => h
  | .bl _, _, h => h
  | .int _, _, h => h
  | .str _, _, h => h
  | .tup xs, _, ⟨a, vs, e, h1, h2⟩ => ⟨a, vs, e, x.tqT h1, RpL.mono x xs h2⟩
  | .lst xs, _, ⟨a, vs, e, h1, h2⟩ => ⟨a, vs, e, x.lsF h1, RpL.mono x xs h2⟩
  | .ro xs, _, ⟨a, vs, e, h1, h2⟩ => ⟨a, vs, e, x.roF h1, RpL.mono x xs h2⟩
  | .dic ks xs, _, ⟨a, kvs, e, h1, h2, h3⟩ => ⟨a, kvs, e, x.keep a _ h1.1 h1.2 rfl, h2, RpL.mono x xs h3⟩
theorem RpL.mono (x : Ex W H W' H') : ∀ (ds : List D) {vs : List V}, RpL W K H ds vs → RpL W' K H' ds vs
  | [], _, h => h
  | d :: ds, _, ⟨v, r, e, h1, h2⟩ => ⟨v, r, e, Rp.mono x d h1, RpL.mono x ds h2⟩
end
end
/-! ## tables of code objects: K's code objects with their tables -/
def IsTb (K : PySem.W.Frag) (c P : Addr) (q : Str) : Prop := PySem.W.codeHdIn K c P = true ∧ PySem.W.codeIn K (.ref c) q = true
structure TBs (K : PySem.W.Frag) (H : Hp) : Prop where
  all : ∀ c P q, IsTb K c P q → LamX.TabS H P (q ++ ".<locals>." ++ "<lambda>")
  uq : ∀ c c' P q q', IsTb K c P q → IsTb K c' P q' → q = q'
theorem TBs.ext {K : PySem.W.Frag} {H H' : Hp} (t : TBs K H) (e : ∀ b o, H b = some o → H' b = some o) : TBs K H' := ⟨fun c P q h => (t.all c P q h).ext e, t.uq⟩
end DL

set_option maxHeartbeats 2000000
namespace DL
open PySem PySem.Spec PyProof.Rows L2

abbrev St := L2.St
/-! ## what a name holds: frozen data, or an owned list of frozen data -/
inductive S where
  | d (x : D) | lst (xs : List D)
@[simp] def S.own : S → Bool
  | .d _ => false
  | .lst _ => true
@[simp] def S.view : S → D
  | .d x => x
  | .lst xs => .lst xs
abbrev En := List (Option S)
def RS (W : List Addr) (K : PySem.W.Frag) (H : Hp) : S → V → Prop
  | .d x, v => Rp W K H x v
  | .lst xs, v => ∃ a vs, v = .ref a ∧ a ∈ W ∧ H a = some (.lst vs) ∧ RpL W K H xs vs
def Ow (σ : St) (e : En) (a : Addr) : Prop := ∃ (i : Nat) (s : S), e[i]? = some (some s) ∧ s.own = true ∧ σ[i]? = some (some (.ref a))
structure SR (W : List Addr) (K : PySem.W.Frag) (H : Hp) (σ : St) (e : En) : Prop where
  tb : TBs K H
  wm : ∀ a ∈ W, Mut (H a)
  len : e.length = σ.length
  sl : ∀ (i : Nat) (s : S), e[i]? = some (some s) → ∃ v, σ[i]? = some (some v) ∧ RS W K H s v
  one : ∀ (i j : Nat) (s t : S) (a : Addr), e[i]? = some (some s) → e[j]? = some (some t) → s.own = true → t.own = true → σ[i]? = some (some (.ref a)) → σ[j]? = some (some (.ref a)) → i = j

theorem isSome_of_mut {o : Option HO} (h : Mut o) : o ≠ none := by
  cases o with
  | none => exact h.elim
  | some o => exact fun z => nomatch z

section
variable {W W' W1 W2 : List Addr} {K : PySem.W.Frag} {H H' H1 H2 : Hp} {σ σ' σ1 σ2 : St} {e e' e1 e2 : En}
theorem SR.ow (r : SR W K H σ e) {a : Addr} (o : Ow σ e a) : a ∈ W := by
  obtain ⟨i, s, h1, h2, h3⟩ := o
  obtain ⟨v, e1, q⟩ := r.sl i s h1
  rw [h3] at e1
  cases e1
  cases s with
  | d x => cases h2
  | lst xs =>
    obtain ⟨b, vs, z, hb, _⟩ := q
    cases z
    exact hb
theorem SR.thr (r : SR W K H σ e) {a : Addr} (h : a ∈ W) : H a ≠ none := isSome_of_mut (r.wm a h)

/-- the heap grows, nothing is changed -/
structure Grow (K : PySem.W.Frag) (W : List Addr) (H : Hp) (W' : List Addr) (H' : Hp) : Prop where
  keep : ∀ a o, H a = some o → nt o = true → H' a = some o
  dom : ∀ a, H' a = none → H a = none
  tb : TBs K H → TBs K H'
  sub : ∀ a ∈ W, a ∈ W'
  new : ∀ a ∈ W', a ∈ W ∨ H a = none
  wm : ∀ a ∈ W', Mut (H' a)
theorem Grow.refl (m : ∀ a ∈ W, Mut (H a)) : Grow K W H W H := ⟨fun _ _ h _ => h, fun _ h => h, fun h => h, fun _ h => h, fun _ h => .inl h, m⟩
theorem Grow.fresh (g : Grow K W H W' H') {a : Addr} (h : H' a = none) : H a = none := g.dom a h
theorem Grow.trans (g : Grow K W H W1 H1) (k : Grow K W1 H1 W2 H2) : Grow K W H W2 H2 where
  keep := fun a o h m => k.keep a o (g.keep a o h m) m
  dom := fun a h => g.dom a (k.dom a h)
  tb := fun h => k.tb (g.tb h)
  sub := fun a h => k.sub a (g.sub a h)
  new := fun a h => by
    rcases k.new a h with z | z
    · exact g.new a z
    · exact .inr (g.fresh z)
  wm := k.wm
theorem Grow.ex (g : Grow K W H W' H') (m : ∀ a ∈ W, Mut (H a)) : Ex W H W' H' where
  wm := m
  keep := fun a o h n m => ⟨g.keep a o h m, fun z => (g.new a z).elim n fun z => by rw [h] at z; cases z⟩
theorem Grow.rs (g : Grow K W H W' H') (m : ∀ a ∈ W, Mut (H a)) : ∀ {s : S} {v : V}, RS W K H s v → RS W' K H' s v
  | .d x, v, h => Rp.mono (g.ex m) x h
  | .lst xs, v, ⟨a, vs, e, h1, h2, h3⟩ => ⟨a, vs, e, g.sub a h1, g.keep a _ h2 rfl, RpL.mono (g.ex m) xs h3⟩
theorem Grow.sr (g : Grow K W H W' H') (r : SR W K H σ e) : SR W' K H' σ e where
  tb := g.tb r.tb
  wm := g.wm
  len := r.len
  sl := fun i s h => let ⟨v, h1, h2⟩ := r.sl i s h; ⟨v, h1, g.rs r.wm h2⟩
  one := r.one
/-- a heap that grows without owned new ones -/
theorem Grow.of (m : ∀ a ∈ W, Mut (H a)) (k : ∀ a o, H a = some o → H' a = some o) : Grow K W H W H' :=
  ⟨fun a o h _ => k a o h, (fun a h => by
    cases z : H a with
    | none => rfl
    | some o => rw [k a o z] at h; cases h), fun t => t.ext k, fun _ h => h, fun _ h => .inl h, fun a h => by
    have q := m a h
    cases z : H a with
    | none => rw [z] at q; exact q.elim
    | some o => rw [k a o z, ← z]; exact q⟩
theorem mut_nt {o : HO} (h : Mut (some o)) : nt o = true := by
  cases o <;> first | rfl | exact h.elim
/-- less is told as owned -/
theorem Grow.base {W' : List Addr} (g : Grow K W H W' H') (wm : ∀ a ∈ W, Mut (H a)) : Grow K W H W H' :=
  ⟨g.keep, g.dom, g.tb, fun _ h => h, fun _ h => .inl h, fun a h => by
    have q := wm a h
    cases z : H a with
    | none => rw [z] at q; exact q.elim
    | some o => rw [g.keep a o z (mut_nt (by rw [← z]; exact q)), ← z]; exact q⟩
theorem upd_keep {a : Addr} {o : HO} (hn : H a = none) : ∀ b u, H b = some u → upd H a o b = some u := fun b u h => by
  rw [upd_ne (ne_of_none h hn)]
  exact h
/-- a new owned object -/
theorem Grow.newO (m : ∀ a ∈ W, Mut (H a)) {p : Addr} {o : HO} (hn : H p = none) (mo : Mut (some o)) : Grow K W H (p :: W) (upd H p o) where
  keep := fun a o h _ => upd_keep hn a o h
  dom := fun a h => by
    cases z : H a with
    | none => rfl
    | some o => rw [upd_keep hn a o z] at h; cases h
  tb := fun t => t.ext (upd_keep hn)
  sub := fun a h => List.mem_cons_of_mem _ h
  new := fun a h => by
    rcases List.mem_cons.mp h with rfl | h
    · exact .inr hn
    · exact .inl h
  wm := fun a h => by
    rcases List.mem_cons.mp h with rfl | h
    · rw [upd_same]; exact mo
    · have q := m a h
      by_cases z : a = p
      · subst z; rw [upd_same]; exact mo
      · rw [upd_ne z]; exact q
/-- a new owned list -/
theorem Grow.lst (m : ∀ a ∈ W, Mut (H a)) {p : Addr} {vs : List V} (hn : H p = none) : Grow K W H (p :: W) (upd H p (.lst vs)) := .newO m hn trivial
theorem codeO_lst {a : Addr} {q : Str} {vs : List V} : (HO.lst vs) ≠ LamX.CodeO a q := fun z => by unfold LamX.CodeO at z; cases z
/-- a cell that tells no code is written -/
theorem TBs.put {o o' : HO} {a : Addr} (t : TBs K H) (h : H a = some o) (n1 : nt o = true) (n2 : ∀ q, o ≠ LamX.CodeO a q) : TBs K (upd H a o') := by
  refine ⟨fun c P q hb => ?_, t.uq⟩
  obtain ⟨ps, h1, h2, h3⟩ := t.all c P q hb
  have n : P ≠ a := fun z => by
    rw [z, h] at h1
    cases h1
    cases n1
  refine ⟨ps, by rw [upd_ne n]; exact h1, h2, fun pos cv hc => ?_⟩
  obtain ⟨c', e1, e2⟩ := h3 pos cv hc
  have n' : c' ≠ a := fun z => by
    rw [z, h] at e2
    cases e2
    exact n2 _ rfl
  exact ⟨c', e1, by rw [upd_ne n']; exact e2⟩
theorem Grow.put {o o' : HO} {a : Addr} (g : Grow K W H W' H') (hn : H a = none) (h : H' a = some o) (n1 : nt o = true) (n2 : ∀ q, o ≠ LamX.CodeO a q) (m : Mut (some o')) : Grow K W H W' (upd H' a o') where
  keep := fun b u hb mb => by rw [upd_ne (ne_of_none hb hn)]; exact g.keep b u hb mb
  dom := fun b hb => by
    by_cases z : b = a
    · rw [z]; exact hn
    · rw [upd_ne z] at hb; exact g.dom b hb
  tb := fun t => (g.tb t).put h n1 n2
  sub := g.sub
  new := g.new
  wm := fun b hb => by
    by_cases z : b = a
    · rw [z, upd_same]; exact m
    · rw [upd_ne z]; exact g.wm b hb

/-- what code may do: what no name of the frame owns stands; frozen things stay frozen, others' owned ones owned -/
structure EX (W : List Addr) (H : Hp) (σ : St) (e : En) (W' : List Addr) (H' : Hp) (σ' : St) (e' : En) : Prop where
  keep : ∀ a o, H a = some o → ¬ Ow σ e a → nt o = true → H' a = some o
  frz : ∀ a o, H a = some o → a ∉ W → a ∉ W'
  tmp : ∀ a ∈ W, ¬ Ow σ e a → a ∈ W' ∧ ¬ Ow σ' e' a
  sub : ∀ a, Ow σ' e' a → Ow σ e a ∨ H a = none
  dom : ∀ a, H' a = none → H a = none
theorem EX.refl : EX W H σ e W H σ e := ⟨fun _ _ h _ _ => h, fun _ _ _ n => n, fun _ h n => ⟨h, n⟩, fun _ h => .inl h, fun _ h => h⟩
theorem EX.trans (x : EX W H σ e W1 H1 σ1 e1) (y : EX W1 H1 σ1 e1 W2 H2 σ2 e2) : EX W H σ e W2 H2 σ2 e2 where
  keep := fun a o h n m => y.keep a o (x.keep a o h n m) (fun z => (x.sub a z).elim n fun z => by rw [h] at z; cases z) m
  frz := fun a o h n => by
    by_cases q : Ow σ e a
    · cases z : H1 a with
      | some o1 => exact y.frz a o1 z (x.frz a o h n)
      | none => rw [x.dom a z] at h; cases h
    · cases z : H1 a with
      | some o1 => exact y.frz a o1 z (x.frz a o h n)
      | none => rw [x.dom a z] at h; cases h
  tmp := fun a h n => let ⟨h1, n1⟩ := x.tmp a h n; y.tmp a h1 n1
  sub := fun a h => by
    rcases y.sub a h with z | z
    · exact x.sub a z
    · exact .inr (x.dom a z)
  dom := fun a h => x.dom a (y.dom a h)
theorem Grow.fx (g : Grow K W H W' H') (r : SR W K H σ e) : EX W H σ e W' H' σ e where
  keep := fun a o h _ m => g.keep a o h m
  frz := fun a o h n z => (g.new a z).elim n fun z => by rw [h] at z; cases z
  tmp := fun a h n => ⟨g.sub a h, n⟩
  sub := fun a h => .inl h
  dom := fun a h => g.fresh h
theorem EX.ex (x : EX W H σ e W' H' σ' e') (r : SR W K H σ e) : Ex W H W' H' where
  wm := r.wm
  keep := fun a o h n m => ⟨x.keep a o h (fun z => n (r.ow z)) m, x.frz a o h n⟩

/-! ## results -/
inductive RV where
  | fz (x : D) | fr (xs : List D) | ow (xs : List D)
@[simp] def RV.view : RV → D
  | .fz x => x
  | .fr xs => .lst xs
  | .ow xs => .lst xs
/-- H: ahead of the evaluation -/
def RVok (W' : List Addr) (K : PySem.W.Frag) (H H' : Hp) : RV → V → Prop
  | .fz x, v => Rp W' K H' x v
  | .fr xs, v => ∃ a vs, v = .ref a ∧ H a = none ∧ a ∈ W' ∧ H' a = some (.lst vs) ∧ RpL W' K H' xs vs
  | .ow xs, v => ∃ a vs, v = .ref a ∧ a ∈ W' ∧ H' a = some (.lst vs) ∧ RpL W' K H' xs vs
/-- an operand: the list itself may be anyone's, what it holds is frozen -/
def Vz (W : List Addr) (K : PySem.W.Frag) (H : Hp) : D → V → Prop
  | .lst xs, v => ∃ a vs, v = .ref a ∧ H a = some (.lst vs) ∧ RpL W K H xs vs
  | .ro xs, v => ∃ a vs, v = .ref a ∧ RoF K H a vs ∧ RpL W K H xs vs
  | .non, v => v = .non
  | .bl b, v => v = .bl b
  | .int i, v => v = .int i
  | .str x, v => v = .str x
  | .tup xs, v => ∃ a vs, v = .ref a ∧ TqT K H a vs ∧ RpL W K H xs vs
  | .dic ks xs, v => ∃ (a : Addr) (kvs : List (Key × V)), v = .ref a ∧ H a = some (.dK kvs) ∧ kvs.map (·.1) = ks ∧ RpL W K H xs (kvs.map (·.2))
theorem Vz.of : ∀ {x : D} {v : V}, Rp W K H x v → Vz W K H x v
  | .non, _, h => h
  | .bl _, _, h => h
  | .int _, _, h => h
  | .str _, _, h => h
  | .tup _, _, h => h
  | .lst _, _, ⟨a, vs, e, h1, h2⟩ => ⟨a, vs, e, h1.1, h2⟩
  | .ro _, _, h => h
  | .dic _ _, _, ⟨a, kvs, e, h1, h2, h3⟩ => ⟨a, kvs, e, h1.1, h2, h3⟩
theorem RVok.vz : ∀ {r : RV} {v : V}, RVok W' K H H' r v → Vz W' K H' r.view v
  | .fz x, v, h => .of h
  | .fr xs, v, ⟨a, vs, e, _, _, h, q⟩ => ⟨a, vs, e, h, q⟩
  | .ow xs, v, ⟨a, vs, e, _, h, q⟩ => ⟨a, vs, e, h, q⟩
theorem Vz.grow (g : Grow K W H W' H') (m : ∀ a ∈ W, Mut (H a)) : ∀ {x : D} {v : V}, Vz W K H x v → Vz W' K H' x v
  | .non, _, h => h
  | .bl _, _, h => h
  | .int _, _, h => h
  | .str _, _, h => h
  | .tup xs, _, h => Vz.of (x := .tup xs) (Rp.mono (g.ex m) (.tup xs) h)
  | .dic ks xs, _, ⟨a, kvs, e, h1, h2, h3⟩ => ⟨a, kvs, e, g.keep a _ h1 rfl, h2, RpL.mono (g.ex m) xs h3⟩
  | .ro xs, _, h => Vz.of (x := .ro xs) (Rp.mono (g.ex m) (.ro xs) h)
  | .lst xs, _, ⟨a, vs, e, h1, h2⟩ => ⟨a, vs, e, g.keep a _ h1 rfl, RpL.mono (g.ex m) xs h2⟩
theorem RVok.grow (g : Grow K W1 H1 W2 H2) (m : ∀ a ∈ W1, Mut (H1 a)) : ∀ {r : RV} {v : V}, RVok W1 K H H1 r v → RVok W2 K H H2 r v
  | .fz x, v, h => Rp.mono (g.ex m) x h
  | .fr xs, v, ⟨a, vs, e, h0, h1, h, q⟩ => ⟨a, vs, e, h0, g.sub a h1, g.keep a _ h rfl, RpL.mono (g.ex m) xs q⟩
  | .ow xs, v, ⟨a, vs, e, h1, h, q⟩ => ⟨a, vs, e, g.sub a h1, g.keep a _ h rfl, RpL.mono (g.ex m) xs q⟩
theorem RVok.back (k : ∀ a, H1 a = none → H a = none) : ∀ {r : RV} {v : V}, RVok W' K H1 H' r v → RVok W' K H H' r v
  | .fz _, _, h => h
  | .fr _, _, ⟨a, vs, e, h0, h⟩ => ⟨a, vs, e, k a h0, h⟩
  | .ow _, _, h => h
end

/-! ## expressions that change nothing -/
abbrev FP := En → Option RV
def tP (K : PySem.W.Frag) (f : FP) : TE := fun σ H Q => ∃ (W : List Addr) (e : En) (r : RV), SR W K H σ e ∧ f e = some r ∧ ∀ v W' H', Grow K W H W' H' → RVok W' K H H' r v → Q v H'
structure PP (X : Cx) (ex : Expr) (f : FP) : Prop where
  pe : PE X ex (tP X.K f)
theorem PP.of {X : Cx} {ex : Expr} {f : FP} (h : ∃ t : TE, PE X ex t ∧ ∀ (W : List Addr) (H : Hp) (σ : St) (e : En) (Q : VK) (r : RV), SR W X.K H σ e → f e = some r →
    (∀ v W' H', Grow X.K W H W' H' → RVok W' X.K H H' r v → Q v H') → t σ H Q) : PP X ex f :=
  let ⟨_, p, k⟩ := h; ⟨⟨fun pins s σ H Q I ⟨W, e, r, a, b, c⟩ => p.run pins s σ H Q I (k W H σ e Q r a b c)⟩⟩
theorem PP.run {X : Cx} {ex : Expr} {f : FP} (h : PP X ex f) : ∃ t : TE, PE X ex t ∧ ∀ (W : List Addr) (H : Hp) (σ : St) (e : En) (Q : VK) (r : RV), SR W X.K H σ e → f e = some r →
    (∀ v W' H', Grow X.K W H W' H' → RVok W' X.K H H' r v → Q v H') → t σ H Q := ⟨_, h.pe, fun W H σ e Q r a b c => ⟨W, e, r, a, b, c⟩⟩
/-- tests -/
abbrev FT := En → Option Bool
def tT (K : PySem.W.Frag) (f : FT) : TT := fun σ H Q => ∃ (W : List Addr) (e : En) (b : Bool), SR W K H σ e ∧ f e = some b ∧ ∀ W' H', Grow K W H W' H' → Q b H'
structure TP (X : Cx) (ex : Expr) (f : FT) : Prop where
  pt : PT X ex (tT X.K f)
theorem TP.of {X : Cx} {ex : Expr} {f : FT} (h : ∃ t : TT, PT X ex t ∧ ∀ (W : List Addr) (H : Hp) (σ : St) (e : En) (Q : Bool → Hp → Prop) (b : Bool), SR W X.K H σ e → f e = some b →
    (∀ W' H', Grow X.K W H W' H' → Q b H') → t σ H Q) : TP X ex f :=
  let ⟨_, p, k⟩ := h; ⟨⟨fun pins s σ H Q I ⟨W, e, r, a, b, c⟩ => p.run pins s σ H Q I (k W H σ e Q r a b c)⟩⟩
theorem TP.run {X : Cx} {ex : Expr} {f : FT} (h : TP X ex f) : ∃ t : TT, PT X ex t ∧ ∀ (W : List Addr) (H : Hp) (σ : St) (e : En) (Q : Bool → Hp → Prop) (b : Bool), SR W X.K H σ e → f e = some b →
    (∀ W' H', Grow X.K W H W' H' → Q b H') → t σ H Q := ⟨_, h.pt, fun W H σ e Q r a b c => ⟨W, e, r, a, b, c⟩⟩
/-- an argument list -/
def RVs (W' : List Addr) (K : PySem.W.Frag) (H H' : Hp) : List RV → List V → Prop
  | [], vs => vs = []
  | r :: rs, vs => ∃ v us, vs = v :: us ∧ RVok W' K H H' r v ∧ RVs W' K H H' rs us
abbrev FA := En → Option (List RV)
def tA (K : PySem.W.Frag) (f : FA) : TA := fun σ H Q => ∃ (W : List Addr) (e : En) (rs : List RV), SR W K H σ e ∧ f e = some rs ∧ ∀ vs W' H', Grow K W H W' H' → RVs W' K H H' rs vs → Q vs H'
structure PPs (X : Cx) (es : List Expr) (f : FA) : Prop where
  pa : PA X es (tA X.K f)
theorem PPs.of {X : Cx} {es : List Expr} {f : FA} (h : ∃ t : TA, PA X es t ∧ ∀ (W : List Addr) (H : Hp) (σ : St) (e : En) (Q : List V → Hp → Prop) (rs : List RV), SR W X.K H σ e → f e = some rs →
    (∀ vs W' H', Grow X.K W H W' H' → RVs W' X.K H H' rs vs → Q vs H') → t σ H Q) : PPs X es f :=
  let ⟨_, p, k⟩ := h; ⟨⟨fun pos pins s σ H Q I ⟨W, e, r, a, b, c⟩ => p.run pos pins s σ H Q I (k W H σ e Q r a b c)⟩⟩
theorem PPs.run {X : Cx} {es : List Expr} {f : FA} (h : PPs X es f) : ∃ t : TA, PA X es t ∧ ∀ (W : List Addr) (H : Hp) (σ : St) (e : En) (Q : List V → Hp → Prop) (rs : List RV), SR W X.K H σ e → f e = some rs →
    (∀ vs W' H', Grow X.K W H W' H' → RVs W' X.K H H' rs vs → Q vs H') → t σ H Q := ⟨_, h.pa, fun W H σ e Q r a b c => ⟨W, e, r, a, b, c⟩⟩
section
variable {W W1 W2 W' : List Addr} {K : PySem.W.Frag} {H H1 H2 H' : Hp}
theorem RVs.grow (g : Grow K W1 H1 W2 H2) (m : ∀ a ∈ W1, Mut (H1 a)) : ∀ {rs : List RV} {vs : List V}, RVs W1 K H H1 rs vs → RVs W2 K H H2 rs vs
  | [], _, h => h
  | r :: rs, _, ⟨v, us, e, h1, h2⟩ => ⟨v, us, e, h1.grow g m, RVs.grow g m h2⟩
theorem RVs.back (k : ∀ a, H1 a = none → H a = none) : ∀ {rs : List RV} {vs : List V}, RVs W' K H1 H' rs vs → RVs W' K H H' rs vs
  | [], _, h => h
  | r :: rs, _, ⟨v, us, e, h1, h2⟩ => ⟨v, us, e, h1.back k, RVs.back k h2⟩
end

/-! ## effects, exceptions -/
/-- an exception: its class's name, its fields -/
structure XD where
  cls : Str
  fs : List (Str × D)
inductive Out where
  | stuck | ok (s : S) (e : En) | ex (x : XD) (e : En)
/-- the exception x lies as cls, d -/
def XR (mg : Str → Option Value) (W : List Addr) (K : PySem.W.Frag) (H : Hp) (x : XD) (cls : Value) (d : Option Addr) : Prop :=
  mg x.cls = some cls ∧ ((x.fs = [] ∧ d = none) ∨ ∃ dd fv, d = some dd ∧ H dd = some (.xd fv) ∧ fv.map (·.1) = x.fs.map (·.1) ∧ RpL W K H (x.fs.map (·.2)) (fv.map (·.2)))
def OutK (K : PySem.W.Frag) (mg : Str → Option Value) (Wx : WX) (W : List Addr) (H : Hp) (σ : St) (e : En) (Q : VK) : Out → Prop
  | .stuck => False
  | .ok s e' => ∀ v W' H', SR W' K H' σ e' → EX W H σ e W' H' σ e' → RS W' K H' s v → (s.own = true → ∀ a, v = .ref a → H a = none ∧ ¬ Ow σ e' a) → Q v H'
  | .ex x e' => ∀ cls d W' H', SR W' K H' σ e' → EX W H σ e W' H' σ e' → XR mg W' K H' x cls d → Wx cls d σ H'
abbrev FM := En → Out
def tM (K : PySem.W.Frag) (mg : Str → Option Value) (Wx : WX) (f : FM) : TE := fun σ H Q => ∃ (W : List Addr) (e : En), SR W K H σ e ∧ OutK K mg Wx W H σ e Q (f e)
structure PM (X : Cx) (Wx : WX) (ex : Expr) (f : FM) : Prop where
  pe : PE X ex (tM X.K X.mg Wx f)
theorem PM.of {X : Cx} {Wx : WX} {ex : Expr} {f : FM} (h : ∃ t : TE, PE X ex t ∧ ∀ (W : List Addr) (H : Hp) (σ : St) (e : En) (Q : VK), SR W X.K H σ e → OutK X.K X.mg Wx W H σ e Q (f e) → t σ H Q) : PM X Wx ex f :=
  let ⟨_, p, k⟩ := h; ⟨⟨fun pins s σ H Q I ⟨W, e, a, b⟩ => p.run pins s σ H Q I (k W H σ e Q a b)⟩⟩
theorem PM.run {X : Cx} {Wx : WX} {ex : Expr} {f : FM} (h : PM X Wx ex f) : ∃ t : TE, PE X ex t ∧ ∀ (W : List Addr) (H : Hp) (σ : St) (e : En) (Q : VK), SR W X.K H σ e → OutK X.K X.mg Wx W H σ e Q (f e) → t σ H Q :=
  ⟨_, h.pe, fun W H σ e Q a b => ⟨W, e, a, b⟩⟩

/-! ## statements -/
inductive Fl where
  | stuck | nx (e : En) | rt (s : S) (e : En) | bk (e : En) | ct (e : En) | ex (x : XD) (e : En)
/-- lk: slots that stand -/
def FlK (K : PySem.W.Frag) (mg : Str → Option Value) (Wx : WX) (lk : List Nat) (W : List Addr) (H : Hp) (σ : St) (e : En) (D : Ends) : Fl → Prop
  | .stuck => False
  | .nx e' => ∀ W' H' σ', SR W' K H' σ' e' → EX W H σ e W' H' σ' e' → (∀ i ∈ lk, σ'[i]? = σ[i]?) → D.nx σ' H'
  | .bk e' => ∀ W' H' σ', SR W' K H' σ' e' → EX W H σ e W' H' σ' e' → (∀ i ∈ lk, σ'[i]? = σ[i]?) → D.bk σ' H'
  | .ct e' => ∀ W' H' σ', SR W' K H' σ' e' → EX W H σ e W' H' σ' e' → (∀ i ∈ lk, σ'[i]? = σ[i]?) → D.ct σ' H'
  | .rt s e' => ∀ v W' H' σ', SR W' K H' σ' e' → EX W H σ e W' H' σ' e' → (∀ i ∈ lk, σ'[i]? = σ[i]?) → RS W' K H' s v →
      (s.own = true → ∀ a, v = .ref a → ¬ Ow σ' e' a ∧ (Ow σ e a ∨ H a = none)) → D.rt v H'
  | .ex x e' => ∀ cls d W' H' σ', SR W' K H' σ' e' → EX W H σ e W' H' σ' e' → (∀ i ∈ lk, σ'[i]? = σ[i]?) → XR mg W' K H' x cls d → Wx cls d σ' H'
abbrev FS := En → Fl
def tS (K : PySem.W.Frag) (mg : Str → Option Value) (Wx : WX) (lk : List Nat) (f : FS) : TS := fun D σ H => ∃ (W : List Addr) (e : En), SR W K H σ e ∧ FlK K mg Wx lk W H σ e D (f e)
structure SD (X : Cx) (Wx : WX) (lk : List Nat) (st : Stmt) (f : FS) : Prop where
  ps : PS X st (tS X.K X.mg Wx lk f)
structure SDs (X : Cx) (Wx : WX) (lk : List Nat) (st : List Stmt) (f : FS) : Prop where
  ps : PSs X st (tS X.K X.mg Wx lk f)
theorem SD.of {X : Cx} {Wx : WX} {lk : List Nat} {st : Stmt} {f : FS} (h : ∃ t : TS, PS X st t ∧ ∀ (W : List Addr) (H : Hp) (σ : St) (e : En) (D : Ends), SR W X.K H σ e → FlK X.K X.mg Wx lk W H σ e D (f e) → t D σ H) : SD X Wx lk st f :=
  let ⟨_, p, k⟩ := h; ⟨⟨fun pins s σ H D I ⟨W, e, a, b⟩ => p.run pins s σ H D I (k W H σ e D a b)⟩⟩
theorem SD.run {X : Cx} {Wx : WX} {lk : List Nat} {st : Stmt} {f : FS} (h : SD X Wx lk st f) : ∃ t : TS, PS X st t ∧ ∀ (W : List Addr) (H : Hp) (σ : St) (e : En) (D : Ends), SR W X.K H σ e → FlK X.K X.mg Wx lk W H σ e D (f e) → t D σ H :=
  ⟨_, h.ps, fun W H σ e D a b => ⟨W, e, a, b⟩⟩
theorem SDs.of {X : Cx} {Wx : WX} {lk : List Nat} {st : List Stmt} {f : FS} (h : ∃ t : TS, PSs X st t ∧ ∀ (W : List Addr) (H : Hp) (σ : St) (e : En) (D : Ends), SR W X.K H σ e → FlK X.K X.mg Wx lk W H σ e D (f e) → t D σ H) : SDs X Wx lk st f :=
  let ⟨_, p, k⟩ := h; ⟨⟨fun pins s σ H D I ⟨W, e, a, b⟩ => p.run pins s σ H D I (k W H σ e D a b)⟩⟩
theorem SDs.run {X : Cx} {Wx : WX} {lk : List Nat} {st : List Stmt} {f : FS} (h : SDs X Wx lk st f) : ∃ t : TS, PSs X st t ∧ ∀ (W : List Addr) (H : Hp) (σ : St) (e : En) (D : Ends), SR W X.K H σ e → FlK X.K X.mg Wx lk W H σ e D (f e) → t D σ H :=
  ⟨_, h.ps, fun W H σ e D a b => ⟨W, e, a, b⟩⟩
end DL

set_option maxHeartbeats 2000000
namespace L2
open PySem PySem.Spec PyProof.Rows
/-! # tuple * int: the tuple itself, of none or one time -/
theorem tuple_mul1 (l : Addr) (items : Array Value) (n : Nat) (dd : Option Addr) (sl : Array (Option Value)) (x : Int) (u : Tok) (c0 : (decide (x < -(2 ^ 63)) || decide (x ≥ 2 ^ 63)) = false) (c1 : (items.isEmpty || x == 1) = true) :
    Meets (Builtin.«tuple.__mul__» ⟨[.ref l, .int x u], []⟩) (fun _ R s => s.heap.get? l = some { cls := .type "tuple", dict := dd, data := .seq items n, slots := sl } ∧
      R (.ok (.ret (Value.ref l))) s) :=
  .of_wp fun prog w A R s h => by
    obtain ⟨hp, g, d, tk, os⟩ := s
    obtain ⟨hl, h⟩ := h
    have f1 := AutoSeq1.idx_int
    wp_walk using wpAny_loadPart' hl
    repeat (first
      | (refine wpAny_ite_false (decide_eq_false (by rw [c0]; exact Bool.false_ne_true)) ?_; wp_walk using wpAny_loadPart' hl)
      | (refine wpAny_ite_true (decide_eq_true c1) ?_; wp_walk using wpAny_loadPart' hl))
    exact ⟨_, rfl, h⟩
def rRep1T (K : PySem.W.Frag) : R2 := fun x y H Q => ∃ l k xs, x = .ref l ∧ y = .int k ∧ SqT K H l xs ∧ (xs = [] ∨ k = 1) ∧ -1000 ≤ k ∧ k ≤ 1000 ∧ Q (.ref l) H
section
variable {X : Cx}
theorem op_rep1T : OpR X (binaryOp .Mult) (rRep1T X.K) := by
  intro pins s σ H x y v u Q I rx ry h
  obtain ⟨l, k, xs, rfl, rfl, hT, hne, h1, h2, q⟩ := h
  cases rx
  obtain ⟨t, rfl⟩ := ry
  obtain ⟨its, r, ⟨⟨cls, dd, data, sl⟩, ho, hc, n, hd⟩, hs⟩ := I.tuple hT
  simp only at hc hd
  subst hc hd
  have hle : its.length = xs.length := r.length.symm
  have c0 : (decide (k < -(2 ^ 63)) || decide (k ≥ 2 ^ 63)) = false := by
    rw [decide_eq_false (by omega), decide_eq_false (by omega)] <;> rfl
  have c1 : (its.toArray.isEmpty || k == 1) = true := by
    rcases hne with rfl | rfl
    · have : its = [] := List.eq_nil_of_length_eq_zero hle
      subst this
      rfl
    · rw [Bool.or_eq_true]; exact .inr rfl
  refine wpAny_binaryOp_repeat_ref (T := "tuple") (U := "int") (by decide) ⟨_, ho, rfl⟩ (fun s' => typeIs_int s' k t) noFill_tuple_mul F.fills_int_mul F.slot_int_rmul repeat_tuple F.slot_int_index.lookup
    (call_meets F.slot_int_rmul (typeIs_int s k t) F.entry_int_rmul (F.args_int_rmul_2 _ _) (int_rmul_tuple k t l its.toArray n dd sl)
      ⟨ho, rfl, ⟨_, ho, rfl⟩, call_meets F.slot_tuple_mul ⟨_, ho, rfl⟩ F.entry_tuple_mul (F.args_tuple_mul_2 _ _) (tuple_mul1 l its.toArray n dd sl k t c0 c1) ⟨ho, ?_⟩⟩)
  exact ⟨.ref l, H, I, rfl, q⟩
/-! # new tuples, their objects known: no dict -/
/-- what is asked of a new tuple -/
def NewT (H : Hp) (xs : List V) (Q : VK) : Prop := ∀ (p : Addr) (o : Obj), o.dict = none → H p = none → Q (.ref p) (upd H p (.frz o (.tup xs)))
section
variable {X : Cx} {pins : List (Addr × Obj)} {σ : St} {H : Hp} {s : Shared}
theorem inv_newT {h : Heap} {its : List Value} {xs : List V} {n : Nat} {tk : Nat} (I : Inv X pins σ H s) (kp : ∀ b u, s.heap.get? b = some u → h.get? b = some u) (hz : xs.length ≤ sizeLine) (r : Vals xs its) (hp : s.heap.objs.size ≤ h.objs.size) :
    ∃ o : Obj, o.dict = none ∧ H h.objs.size = none ∧ Inv X pins σ (upd H h.objs.size (.frz o (.tup xs))) { s with heap := h.push { cls := .type "tuple", data := .seq its.toArray n }, toks := tk } := by
  have g : (h.push { cls := .type "tuple", data := .seq its.toArray n }).get? h.objs.size = some { cls := .type "tuple", data := .seq its.toArray n } := Heap.get?_push_size _ rfl
  exact ⟨_, rfl, I.hok.fresh hp, I.laid (t' := tk) (o := .frz { cls := .type "tuple", data := .seq its.toArray n } (.tup xs)) (fun b u e => Heap.get?_push_of_some _ (kp b u e)) hp ⟨g, hz, its, r, _, g, rfl, _, rfl⟩⟩
theorem ep_newT {A : Around} {h : Heap} {its : List Value} {xs : List V} {n : Nat} {tk : Nat} {Q : VK} (I : Inv X pins σ H s) (kp : ∀ b u, s.heap.get? b = some u → h.get? b = some u) (hz : xs.length ≤ sizeLine) (r : Vals xs its) (hp : s.heap.objs.size ≤ h.objs.size) (q : NewT H xs Q) :
    EP X pins σ Q (.ref h.objs.size) { s with heap := h.push { cls := .type "tuple", data := .seq its.toArray n }, toks := tk } := by
  obtain ⟨o, hd, hn, I2⟩ := inv_newT (n := n) (tk := tk) I kp hz r hp
  exact ⟨.ref h.objs.size, _, I2, rfl, q _ o hd hn⟩
end
section
variable {X : Cx}
def rCatN (K : PySem.W.Frag) : R2 := fun x y H Q => ∃ a b xs ys, x = .ref a ∧ y = .ref b ∧ SqT K H a xs ∧ SqT K H b ys ∧ xs.length + ys.length ≤ sizeLine ∧ (xs = [] → Q (.ref b) H) ∧ (xs ≠ [] → ys = [] → Q (.ref a) H) ∧ (xs ≠ [] → ys ≠ [] → NewT H (xs ++ ys) Q)
theorem op_catN : OpR X (binaryOp .Add) (rCatN X.K) := by
  intro pins s σ H x y v u Q I rx ry h
  obtain ⟨a, b, xs, ys, rfl, rfl, ha, hb, hz, q0, q1, q2⟩ := h
  cases rx
  cases ry
  obtain ⟨its, r1, p1, _⟩ := I.tuple ha
  obtain ⟨its2, r2, p2, _⟩ := I.tuple hb
  by_cases hx : xs = []
  · subst hx
    cases r1
    exact cat_tup0 p1 p2 ⟨.ref b, H, I, rfl, q0 rfl⟩
  · refine HT.cat_tup p1 p2 (fun z => hx (r1.nil_iff.mp z)) (fun z => ⟨.ref a, H, I, rfl, q1 hx (r2.nil_iff.mp z)⟩) (fun z => ?_) (by rw [← r1.length, ← r2.length]; exact hz)
    exact ep_newT (A := X.A) I (fun _ _ e => e) (by rw [List.length_append]; exact hz) (r1.append r2) (Nat.le_refl _) (q2 hx fun w => z (r2.nil_iff.mpr w))
def rSlN (K : PySem.W.Frag) : V → Option Int → Option Int → Hp → VK → Prop := fun x lo hi H Q => ∃ a xs, x = .ref a ∧ SqT K H a xs ∧
  (HT.sIx xs.length 0 lo = 0 ∧ HT.sIx xs.length xs.length hi = xs.length → Q (.ref a) H) ∧ (¬ (HT.sIx xs.length 0 lo = 0 ∧ HT.sIx xs.length xs.length hi = xs.length) → NewT H (cutV xs lo hi) Q)
theorem sl_tupN : SlR X (rSlN X.K) := by
  intro pins s σ H x v vl vu lo hi sl Q I rx hs pl pu h
  obtain ⟨a, xs, rfl, hx, q1, q2⟩ := h
  cases rx
  obtain ⟨its, r, ht, hz⟩ := I.tuple hx
  have hlen : its.toArray.size = xs.length := by rw [List.size_toArray]; exact r.length.symm
  refine ⟨"tuple", _, PyProof.Rows.slot_tuple_getitem.lookup, ht.typeIs, ?_⟩
  by_cases hw : HT.sIx xs.length 0 lo = 0 ∧ HT.sIx xs.length xs.length hi = xs.length
  · exact getItem_tuple_whole ht hs pl pu (by rw [hlen]; exact hw) ⟨.ref a, H, I, rfl, q1 hw⟩
  · refine HT.getItem_tuple_cut ht hs pl pu (by rw [hlen]; exact hw) ?_ (by rw [hlen]; exact hz)
    rw [hlen]
    exact ep_newT (A := X.A) I (fun _ _ e => e) (Nat.le_trans (cutV_length xs lo hi) hz) ((r.drop (HT.sIx xs.length 0 lo)).take (HT.sIx xs.length xs.length hi - HT.sIx xs.length 0 lo)) (Nat.le_refl _) (q2 hw)
theorem call_tupN : CallR X (.type "tuple") (fun xs H Q => ∃ p ys, xs = [.ref p] ∧ ((SqL X.K H p ys ∧ NewT H ys Q) ∨ (SqT X.K H p ys ∧ Q (.ref p) H))) := by
  intro pins s σ H xs us Q I r h
  obtain ⟨p, ys, rfl, h⟩ := h
  obtain ⟨u, rfl, rx⟩ := vals1 r
  cases rx
  rcases h with ⟨hq, q⟩ | ⟨hq, q⟩
  · obtain ⟨its, r', pl, hz⟩ := I.list hq
    have hlen := r'.length
    refine call_tuple_list pl.isList (fun h' kp => ?_) (by simp only [List.size_toArray] <;> omega)
    have I1 : Inv X pins σ H { s with heap := h' } := I.kept (t' := s.toks) kp
    exact ep_newT (A := X.A) (s := { s with heap := h' }) I1 (fun _ _ e => e) hz r' (Nat.le_refl _) q
  · obtain ⟨its, r', pl, hz⟩ := I.tuple hq
    exact call_tuple_same pl ⟨.ref p, H, I, rfl, q⟩
theorem call_divN : CallR X (.builtin "divmod") (fun xs H Q => ∃ i j, xs = [.int i, .int j] ∧ CDiv i j ∧ NewT H [.int (i / j), .int (i % j)] Q) := by
  intro pins s σ H xs us Q I r h
  obtain ⟨i, j, rfl, ⟨h1, h2⟩, q⟩ := h
  obtain ⟨u, w', rfl, ⟨t, rfl⟩, ⟨t', rfl⟩⟩ := vals2 r
  refine divmod_int (by omega) ?_ (.inl (PyProof.noPylong_small (by omega)))
  rw [Int.fdiv_eq_ediv_of_nonneg i (by omega), Int.fmod_eq_emod_of_nonneg i (by omega)]
  exact ep_newT (A := X.A) (its := [.int (i / j) s.toks, .int (i % j) (s.toks + 1)]) (xs := [.int (i / j), .int (i % j)]) I (fun _ _ e => e) (by simp only [List.length_cons, List.length_nil]; rw [sizeLine_eq]; decide) (.cons ⟨_, rfl⟩ (.cons ⟨_, rfl⟩ .nil)) (Nat.le_refl _) q
def tTupN (t : TA) : TE := fun σ H Q => t σ H fun xs H1 => xs.length ≤ sizeLine ∧ NewT H1 xs Q
theorem pe_tupN {es : List Expr} {t : TA} {pos : Pos} {x1} (h : PA X es t) : PE X (.Tuple es x1 pos) (tTupN t) := by
  refine ⟨fun pins s σ H Q I hq => ?_⟩
  refine wpAny_Tuple_spliced (thn (h.run pos pins s σ H _ I hq) fun us s1 ⟨xs, H1, I1, r, z, q⟩ => ⟨by rw [← r.length]; exact z, ?_⟩)
  exact ep_newT (A := X.A) I1 (fun _ _ e => e) z r (Nat.le_refl _) q
def rRepN (K : PySem.W.Frag) : R2 := fun x y H Q => ∃ l k xs, x = .ref l ∧ y = .int k ∧ SqT K H l xs ∧ xs ≠ [] ∧ 2 ≤ k ∧ k ≤ 1000 ∧ xs.length ≤ 1000 ∧ NewT H (List.replicate k.toNat xs).flatten Q
theorem op_repN : OpR X (binaryOp .Mult) (rRepN X.K) := by
  intro pins s σ H x y v u Q I rx ry h
  obtain ⟨l, k, xs, rfl, rfl, hT, hne, k2, kh, xh, q⟩ := h
  cases rx
  obtain ⟨tk, rfl⟩ := ry
  obtain ⟨its, r, ⟨⟨cls, dd, data, sl⟩, ho, hc, n, hd⟩, _⟩ := I.tuple hT
  simp only at hc hd
  subst hc hd
  have len : its.length = xs.length := r.length.symm
  have some1 : its.toArray.isEmpty = false := by
    cases its with
    | nil => exact absurd (List.eq_nil_of_length_eq_zero len.symm) hne
    | cons _ _ => rfl
  have sz : its.toArray.size = xs.length := len
  have few : k.toNat * xs.length ≤ 1000000 := show k.toNat * xs.length ≤ 1000 * 1000 from Nat.mul_le_mul (by omega) xh
  have fewZ : (xs.length : Int) * k ≤ 1000000 := by
    have e : ((k.toNat * xs.length : Nat) : Int) = k * xs.length := by rw [Int.natCast_mul, Int.toNat_of_nonneg (by omega)]
    have : ((k.toNat * xs.length : Nat) : Int) ≤ 1000000 := Int.ofNat_le.mpr few
    rw [e, Int.mul_comm] at this
    exact this
  have lim := sizeLine_eq
  have fewS : ((its.toArray.size : Nat) : Int) * k ≤ 1000000 := by rw [sz]; exact fewZ
  have made : (List.replicate k.toNat its).flatten.length ≤ sizeLine := by
    rw [PyProof.Rows.lm_len_rep_flat, len]
    omega
  have q1 : (decide (k < -(2 ^ 63)) || decide (k ≥ 2 ^ 63)) = false := by rw [decide_eq_false (by omega), decide_eq_false (by omega)] <;> rfl
  have q2 : (its.toArray.isEmpty || k == 1) = false := by rw [some1, Bool.false_or, beq_eq_false_iff_ne]; omega
  have q3 : (decide (k ≤ 0) || its.toArray.isEmpty) = false := by rw [some1, Bool.or_false, decide_eq_false_iff_not]; omega
  have q4 : Builtin.Tuple.tupleTooMany (((its.toArray.size : Nat) : Int) * k) = false := by
    unfold Builtin.Tuple.tupleTooMany
    rw [sz, decide_eq_false_iff_not]
    omega
  refine wpAny_binaryOp_repeat_ref (T := "tuple") (U := "int") (by decide) ⟨_, ho, rfl⟩ (fun s' => typeIs_int s' k tk) noFill_tuple_mul F.fills_int_mul F.slot_int_rmul repeat_tuple F.slot_int_index.lookup
    (call_meets F.slot_int_rmul (typeIs_int s k tk) F.entry_int_rmul (F.args_int_rmul_2 _ _) (int_rmul_tuple k tk l its.toArray n dd sl) ⟨ho, rfl, ⟨_, ho, rfl⟩, ?_⟩)
  refine call_meets F.slot_tuple_mul ⟨_, ho, rfl⟩ F.entry_tuple_mul (F.args_tuple_mul_2 _ _) (tuple_mulW l its.toArray n dd sl k tk q1 q2 q3 (by omega) q4 (by rw [size_rep, List.size_toArray]; exact made)) ⟨ho, ?_⟩
  rw [size_rep]
  exact ep_newT (A := X.A) I (fun _ _ e => e) (by rw [PyProof.Rows.lm_len_rep_flat]; omega) (r.rep k.toNat) (Nat.le_refl _) q
end
/-! # x in t, t a tuple of data of any depth -/
def rInDT (K : PySem.W.Frag) : R2 := fun x y H Q => ∃ d ds, Dp K H x d ∧ Dp K H y (.tuple ds) ∧ SeqAt.shaped d = true ∧ SeqAt.shaped (.tuple ds) = true ∧ Q (.bl (ds.any fun z => PyData.eqv z d)) H
def rNotInDT (K : PySem.W.Frag) : R2 := fun x y H Q => ∃ d ds, Dp K H x d ∧ Dp K H y (.tuple ds) ∧ SeqAt.shaped d = true ∧ SeqAt.shaped (.tuple ds) = true ∧ Q (.bl (!ds.any fun z => PyData.eqv z d)) H
end
end L2

set_option maxHeartbeats 2000000
namespace DL
open PySem PySem.Spec PyProof.Rows L2

def SZ : Nat := 16777216
theorem SZ_eq : sizeLine = SZ := sizeLine_eq

/-! ## operations by data -/
abbrev KQ (W : List Addr) (K : PySem.W.Frag) (H : Hp) (r : RV) (Q : VK) : Prop := ∀ v W' H', Grow K W H W' H' → RVok W' K H H' r v → Q v H'
abbrev WM (W : List Addr) (H : Hp) : Prop := ∀ a ∈ W, Mut (H a)
structure Op2 (X : Cx) (f : Value → Value → Sem Value) (g : D → D → Option RV) : Prop where
  run : ∃ rl : R2, OpR X f rl ∧ ∀ (W : List Addr) (H : Hp) (x y : V) (dx dy : D) (r : RV) (Q : VK), WM W H → Vz W X.K H dx x → Vz W X.K H dy y → g dx dy = some r → KQ W X.K H r Q → rl x y H Q
structure Op1 (X : Cx) (f : Value → Sem Value) (g : D → Option RV) : Prop where
  run : ∃ rl : V → Hp → VK → Prop, UnR X f rl ∧ ∀ (W : List Addr) (H : Hp) (x : V) (dx : D) (r : RV) (Q : VK), WM W H → Vz W X.K H dx x → g dx = some r → KQ W X.K H r Q → rl x H Q

section
variable {W : List Addr} {K : PySem.W.Frag} {H : Hp} {r : RV} {Q : VK}
/-- an answer that needs no heap -/
theorem KQ.fz {x : D} {v : V} (wm : WM W H) (k : KQ W K H (.fz x) Q) (h : Rp W K H x v) : Q v H := k v W H (.refl wm) h
/-- a new list -/
theorem KQ.fr {xs : List D} {vs : List V} (wm : WM W H) (k : KQ W K H (.fr xs) Q) (h : RpL W K H xs vs) : ∀ p, H p = none → Q (.ref p) (upd H p (.lst vs)) := fun p hn =>
  k (.ref p) (p :: W) _ (.lst wm hn) ⟨p, vs, rfl, hn, List.mem_cons_self, upd_same, RpL.mono ((Grow.lst (K := K) wm hn).ex wm) xs h⟩
/-- a new tuple -/
theorem Grow.tup (wm : WM W H) {p : Addr} {o : HO} (hn : H p = none) : Grow K W H W (upd H p o) := .of wm (upd_keep hn)
theorem KQ.tup {xs : List D} {vs : List V} (wm : WM W H) (k : KQ W K H (.fz (.tup xs)) Q) (h : RpL W K H xs vs) : NewT H vs Q := fun p o hd hn =>
  k (.ref p) W _ (.tup wm hn) ⟨p, vs, rfl, .frz hd, RpL.mono ((Grow.tup (K := K) wm hn).ex wm) xs h⟩
end

section
variable {X : Cx}
@[simp] def gAdd : D → D → Option RV
  | .int i, .int j => some (.fz (.int (i + j)))
  | .str x, .str y => if x.length + y.length ≤ SZ then some (.fz (.str (x ++ y))) else none
  | .tup xs, .tup ys => if xs.length + ys.length ≤ SZ then some (.fz (.tup (xs ++ ys))) else none
  | .lst xs, .lst ys => if xs.length + ys.length ≤ SZ then some (.fr (xs ++ ys)) else none
  | _, _ => none
theorem o_add : Op2 X (binaryOp .Add) gAdd := by
  refine ⟨_, op_add.or (op_add_str.or (op_catN.or op_cat)), fun W H x y dx dy r Q wm hx hy hg k => ?_⟩
  unfold gAdd at hg
  split at hg
  · cases hg
    exact .inl ⟨_, _, hx, hy, k.fz wm rfl⟩
  · split at hg
    · rename_i hz
      cases hg
      exact .inr (.inl ⟨_, _, hx, hy, by rw [SZ_eq]; exact hz, k.fz wm rfl⟩)
    · cases hg
  · split at hg
    · rename_i xs ys hz
      cases hg
      obtain ⟨a, vs, e1, h1, r1⟩ := hx
      obtain ⟨b, us, e2, h2, r2⟩ := hy
      refine .inr (.inr (.inl ⟨a, b, vs, us, e1, e2, h1.1, h2.1, by rw [SZ_eq, ← r1.length, ← r2.length]; exact hz, fun e => ?_, fun _ e => ?_, fun _ _ => k.tup wm (r1.append r2)⟩))
      · subst e
        have z : xs = [] := List.eq_nil_of_length_eq_zero r1.length
        subst z
        exact k.fz wm ⟨b, us, rfl, h2, r2⟩
      · subst e
        have z : ys = [] := List.eq_nil_of_length_eq_zero r2.length
        subst z
        exact k.fz wm ⟨a, vs, rfl, h1, by rw [List.append_nil]; exact r1⟩
    · cases hg
  · split at hg
    · rename_i xs ys hz
      cases hg
      obtain ⟨a, vs, e1, h1, r1⟩ := hx
      obtain ⟨b, us, e2, h2, r2⟩ := hy
      exact .inr (.inr (.inr ⟨a, b, vs, us, e1, e2, h1, h2, by rw [SZ_eq, ← r1.length, ← r2.length]; exact hz, k.fr wm (r1.append r2)⟩))
    · cases hg
  · cases hg
@[simp] def gSub : D → D → Option RV
  | .int i, .int j => some (.fz (.int (i - j)))
  | _, _ => none
theorem o_sub : Op2 X (binaryOp .Sub) gSub := by
  refine ⟨_, op_sub, fun W H x y dx dy r Q wm hx hy hg k => ?_⟩
  unfold gSub at hg
  split at hg
  · cases hg
    exact ⟨_, _, hx, hy, k.fz wm rfl⟩
  · cases hg

theorem RpL.rep {W : List Addr} {K : PySem.W.Frag} {H : Hp} {ds : List D} {vs : List V} (h : RpL W K H ds vs) : ∀ k : Nat, RpL W K H (List.replicate k ds).flatten (List.replicate k vs).flatten
  | 0 => rfl
  | k + 1 => by
    rw [List.replicate_succ, List.replicate_succ, List.flatten_cons, List.flatten_cons]
    exact h.append (RpL.rep h k)
def repS (z : Str) (n : Nat) : Str := ⟨(List.replicate n z.cps).foldl (· ++ ·) #[]⟩
theorem repS_len (z : Str) : ∀ (n : Nat) (acc : Array Nat), ((List.replicate n z.cps).foldl (· ++ ·) acc).size = acc.size + n * z.length
  | 0, acc => by simp
  | n + 1, acc => by
    rw [List.replicate_succ, List.foldl_cons, repS_len z n, Array.size_append]
    show acc.size + z.length + n * z.length = acc.size + (n + 1) * z.length
    rw [Nat.succ_mul]
    omega
def rRepS : R2 := fun x y H Q => ∃ (z : Str) (k : Int), x = .str z ∧ y = .int k ∧ 1 ≤ k ∧ k ≤ 1000 ∧ 1 ≤ z.length ∧ z.length ≤ 1000 ∧ Q (.str (repS z k.toNat)) H
theorem repS_one (z : Str) : repS z 1 = z := by
  obtain ⟨c⟩ := z
  show (⟨#[] ++ c⟩ : Str) = _
  rw [Array.empty_append]
theorem op_repS : OpR X (binaryOp .Mult) rRepS := by
  intro pins s σ H x y v u Q I rx ry h
  obtain ⟨z, k, rfl, rfl, h1, h2, h3, h4, q⟩ := h
  obtain ⟨t, rfl⟩ := rx
  obtain ⟨t', rfl⟩ := ry
  by_cases k1 : k = 1
  · subst k1
    have q2 : Q (.str z) H := by
      have := q
      rw [show (1 : Int).toNat = 1 from rfl, repS_one] at this
      exact this
    refine PySem.P.mul_str (by decide) (fun _ e => ?_) (fun _ e => ?_) ?_
    · exact absurd e (by simp)
    · exact absurd e (by simp)
    · rw [if_neg (by decide), if_pos (by simp)]
      exact ⟨.str z, H, I, ⟨t, rfl⟩, q2⟩
  have m1 : z.length * k.toNat ≤ 1000 * 1000 := Nat.mul_le_mul h4 (by omega)
  have e1 : (k == 1 || z.length == 0) = false := by
    rw [Bool.or_eq_false_iff]
    exact ⟨beq_eq_false_iff_ne.mpr (by omega), beq_eq_false_iff_ne.mpr (by omega)⟩
  refine PySem.P.mul_str (by rw [decide_eq_false (by omega), decide_eq_false (by omega)]; rfl) (fun _ _ q => ?_) (fun _ _ => ?_) ?_
  · have h5 : (z.length : Int) ≤ (2 ^ 63 - 1) / k := (Int.le_ediv_iff_mul_le (by omega)).mpr (by
      have h6 : (z.length : Int) * k ≤ 1000 * 1000 := Int.mul_le_mul (by omega) h2 (by omega) (by omega)
      omega)
    omega
  · unfold Builtin.Str.tooLong
    exact decide_eq_false (by rw [sizeLine_eq]; omega)
  · rw [if_neg (by omega), e1]
    have hz : (repS z k.toNat).length ≤ sizeLine := by
      show ((List.replicate k.toNat z.cps).foldl (· ++ ·) #[]).size ≤ sizeLine
      rw [repS_len, sizeLine_eq]
      have : k.toNat * z.length = z.length * k.toNat := Nat.mul_comm _ _
      simp
      omega
    exact ⟨hz, .str _, H, I.tok _, ⟨_, rfl⟩, q⟩
def gMul : D → D → Option RV
  | .str z, .int k => if 1 ≤ k ∧ k ≤ 1000 ∧ 1 ≤ z.length ∧ z.length ≤ 1000 then some (.fz (.str (repS z k.toNat))) else none
  | .int i, .int j => if i.natAbs.log2 + j.natAbs.log2 < 1000000 then some (.fz (.int (i * j))) else none
  | .lst xs, .int k => if -(2 ^ 63) ≤ k ∧ k < 2 ^ 63 ∧ xs.length * k.toNat ≤ SZ then some (.fr (List.replicate k.toNat xs).flatten) else none
  | .tup xs, .int k => if xs ≠ [] ∧ 2 ≤ k ∧ k ≤ 1000 ∧ xs.length ≤ 1000 then some (.fz (.tup (List.replicate k.toNat xs).flatten)) else if (xs = [] ∨ k = 1) ∧ -1000 ≤ k ∧ k ≤ 1000 then some (.fz (.tup xs)) else none
  | _, _ => none
theorem o_mul : Op2 X (binaryOp .Mult) gMul := by
  refine ⟨_, op_mulW.or (op_rep.or (op_repN.or (op_repS.or op_rep1T))), fun W H x y dx dy r Q wm hx hy hg k => ?_⟩
  unfold gMul at hg
  split at hg
  · split at hg
    · rename_i hz
      cases hg
      exact .inr (.inr (.inr (.inl ⟨_, _, hx, hy, hz.1, hz.2.1, hz.2.2.1, hz.2.2.2, k.fz wm rfl⟩)))
    · cases hg
  · split at hg
    · rename_i hz
      cases hg
      exact .inl ⟨_, _, hx, hy, hz, k.fz wm rfl⟩
    · cases hg
  · split at hg
    · rename_i xs n hz
      cases hg
      obtain ⟨a, vs, e1, h1, r1⟩ := hx
      exact .inr (.inl ⟨a, n, vs, e1, hy, h1, hz.1, hz.2.1, by rw [SZ_eq, ← r1.length]; exact hz.2.2, k.fr wm (r1.rep _)⟩)
    · cases hg
  · split at hg
    · rename_i xs n hz
      cases hg
      obtain ⟨a, vs, e1, h1, r1⟩ := hx
      refine .inr (.inr (.inl ⟨a, n, vs, e1, hy, h1.1, fun e => ?_, hz.2.1, hz.2.2.1, by rw [← r1.length]; exact hz.2.2.2, k.tup wm (r1.rep _)⟩))
      subst e
      exact hz.1 (List.eq_nil_of_length_eq_zero r1.length)
    · split at hg
      · rename_i xs n hq hz
        cases hg
        obtain ⟨a, vs, e1, h1, r1⟩ := hx
        refine .inr (.inr (.inr (.inr ⟨a, n, vs, e1, hy, h1.1, ?_, hz.2.1, hz.2.2, k.fz wm ⟨a, vs, rfl, h1, r1⟩⟩)))
        rcases hz.1 with e | e
        · subst e
          exact .inl (List.eq_nil_of_length_eq_zero r1.length.symm)
        · exact .inr e
      · cases hg
  · cases hg
@[simp] def gMod : D → D → Option RV
  | .int i, .int j => if 0 < j then some (.fz (.int (i % j))) else none
  | _, _ => none
theorem o_mod : Op2 X (binaryOp .Mod) gMod := by
  refine ⟨_, op_mod, fun W H x y dx dy r Q wm hx hy hg k => ?_⟩
  unfold gMod at hg
  split at hg
  · split at hg
    · rename_i hz
      cases hg
      exact ⟨_, _, hx, hy, hz, k.fz wm rfl⟩
    · cases hg
  · cases hg
@[simp] def gFdiv : D → D → Option RV
  | .int i, .int j => if 0 < j ∧ j.natAbs.log2 < 9000 then some (.fz (.int (i / j))) else none
  | _, _ => none
theorem o_fdiv : Op2 X (binaryOp .FloorDiv) gFdiv := by
  refine ⟨_, op_fdivW, fun W H x y dx dy r Q wm hx hy hg k => ?_⟩
  unfold gFdiv at hg
  split at hg
  · split at hg
    · rename_i hz
      cases hg
      exact ⟨_, _, hx, hy, hz, k.fz wm rfl⟩
    · cases hg
  · cases hg
@[simp] def gPow : D → D → Option RV
  | .int i, .int j => if 0 ≤ j ∧ j ≤ 1000000 ∧ i.natAbs < 2 ^ 64 then some (.fz (.int (i ^ j.toNat))) else none
  | _, _ => none
theorem o_pow : Op2 X (binaryOp .Pow) gPow := by
  refine ⟨_, op_pow, fun W H x y dx dy r Q wm hx hy hg k => ?_⟩
  unfold gPow at hg
  split at hg
  · split at hg
    · rename_i hz
      cases hg
      exact ⟨_, _, hx, hy, hz, k.fz wm rfl⟩
    · cases hg
  · cases hg
@[simp] def gNeg : D → Option RV
  | .int i => some (.fz (.int (-i)))
  | _ => none
theorem o_neg : Op1 X (unaryOp .USub) gNeg := by
  refine ⟨_, un_neg, fun W H x dx r Q wm hx hg k => ?_⟩
  unfold gNeg at hg
  split at hg
  · cases hg
    exact ⟨_, hx, k.fz wm rfl⟩
  · cases hg

/-! ### order of ints -/
@[simp] def gCmp (p : Int → Int → Bool) : D → D → Option RV
  | .int i, .int j => some (.fz (.bl (p i j)))
  | _, _ => none
theorem o_cmp {op : CmpOp} {p : Int → Int → Bool} (h : OpR X (compareOp op) (rI0 fun i j => .bl (p i j))) : Op2 X (compareOp op) (gCmp p) := by
  refine ⟨_, h, fun W H x y dx dy r Q wm hx hy hg k => ?_⟩
  unfold gCmp at hg
  split at hg
  · cases hg
    exact ⟨_, _, hx, hy, k.fz wm rfl⟩
  · cases hg
abbrev gLt := gCmp fun i j => decide (i < j)
abbrev gLe := gCmp fun i j => decide (i ≤ j)
abbrev gGt := gCmp fun i j => decide (j < i)
abbrev gGe := gCmp fun i j => decide (j ≤ i)
theorem o_lt : Op2 X (compareOp .Lt) gLt := o_cmp op_lt
theorem o_le : Op2 X (compareOp .LtE) gLe := o_cmp op_le
theorem o_gt : Op2 X (compareOp .Gt) gGt := o_cmp op_gt
theorem o_ge : Op2 X (compareOp .GtE) gGe := o_cmp op_ge

/-! ### equality -/
mutual
def _root_.DL.D.py : D → PyData
  | .non => .none
  | .bl b => .bool b
  | .int i => .int i
  | .str x => .str x
  | .tup xs => .tuple (pyL xs)
  | .lst xs => .list (pyL xs)
  | .ro xs => .list (pyL xs)
  | .dic _ _ => .dict []
def _root_.DL.pyL : List D → List PyData
  | [] => []
  | d :: ds => d.py :: pyL ds
end
mutual
def _root_.DL.D.okp : D → Bool
  | .non => true
  | .bl _ => true
  | .int _ => true
  | .str _ => true
  | .tup xs => okpL xs
  | .lst xs => okpL xs
  | .ro xs => okpL xs
  | .dic _ _ => false
def _root_.DL.okpL : List D → Bool
  | [] => true
  | d :: ds => d.okp && okpL ds
end
mutual
theorem _root_.DL.Rp.dp {W : List Addr} {K : PySem.W.Frag} {H : Hp} : ∀ (d : D) {v : V}, d.okp = true → Rp W K H d v → Dp K H v d.py
  | .non, v, _, h => by cases (show v = .non from h); exact .non
  | .bl b, v, _, h => by cases (show v = .bl b from h); exact .bl b
  | .int i, v, _, h => by cases (show v = .int i from h); exact .int i
  | .str x, v, _, h => by cases (show v = .str x from h); exact .str x
  | .tup xs, _, o, ⟨a, vs, e, h1, h2⟩ => by subst e; exact .tup h1.1 (RpL.dp xs o h2)
  | .lst xs, _, o, ⟨a, vs, e, h1, h2⟩ => by subst e; exact .lst h1.seq (RpL.dp xs o h2)
  | .ro xs, _, o, ⟨a, vs, e, h1, h2⟩ => by subst e; exact .lst h1.seq (RpL.dp xs o h2)
theorem _root_.DL.RpL.dp {W : List Addr} {K : PySem.W.Frag} {H : Hp} : ∀ (ds : List D) {vs : List V}, okpL ds = true → RpL W K H ds vs → DpAll K H vs (pyL ds)
  | [], vs, _, h => by cases (show vs = [] from h); exact .nil
  | d :: ds, _, o, ⟨v, r, e, h1, h2⟩ => by
    subst e
    obtain ⟨o1, o2⟩ := Bool.and_eq_true_iff.mp (show (d.okp && okpL ds) = true from o)
    exact .cons (Rp.dp d o1 h1) (RpL.dp ds o2 h2)
end
theorem Vz.dp {W : List Addr} {K : PySem.W.Frag} {H : Hp} : ∀ {d : D} {v : V}, d.okp = true → Vz W K H d v → Dp K H v d.py
  | .non, _, o, h => Rp.dp (W := W) .non o h
  | .bl b, _, o, h => Rp.dp (W := W) (.bl b) o h
  | .int i, _, o, h => Rp.dp (W := W) (.int i) o h
  | .str x, _, o, h => Rp.dp (W := W) (.str x) o h
  | .tup xs, _, o, h => Rp.dp (W := W) (.tup xs) o h
  | .ro xs, _, o, h => Rp.dp (W := W) (.ro xs) o h
  | .lst xs, _, o, ⟨a, vs, e, h1, h2⟩ => by subst e; exact .lst (.of h1) (RpL.dp xs o h2)
def eqb (x y : D) : Bool := PyData.eqv x.py y.py
def eqok (x : D) : Bool := x.okp && SeqAt.shaped x.py
def gEq (x y : D) : Option RV := if eqok x = true ∧ eqok y = true then some (.fz (.bl (eqb x y))) else none
def gNe (x y : D) : Option RV := if eqok x = true ∧ eqok y = true then some (.fz (.bl (!eqb x y))) else none
theorem o_eq (hu : X.A.units + 64 < cLine) : Op2 X (compareOp .Eq) gEq := by
  refine ⟨_, op_eqD hu, fun W H x y dx dy r Q wm hx hy hg k => ?_⟩
  unfold gEq at hg
  split at hg
  · rename_i hz
    cases hg
    obtain ⟨a1, a2⟩ := Bool.and_eq_true_iff.mp (show (dx.okp && SeqAt.shaped dx.py) = true from hz.1)
    obtain ⟨b1, b2⟩ := Bool.and_eq_true_iff.mp (show (dy.okp && SeqAt.shaped dy.py) = true from hz.2)
    exact ⟨_, _, hx.dp a1, hy.dp b1, a2, b2, k.fz wm rfl⟩
  · cases hg
theorem o_ne (hu : X.A.units + 64 < cLine) : Op2 X (compareOp .NotEq) gNe := by
  refine ⟨_, op_neD hu, fun W H x y dx dy r Q wm hx hy hg k => ?_⟩
  unfold gNe at hg
  split at hg
  · rename_i hz
    cases hg
    obtain ⟨a1, a2⟩ := Bool.and_eq_true_iff.mp (show (dx.okp && SeqAt.shaped dx.py) = true from hz.1)
    obtain ⟨b1, b2⟩ := Bool.and_eq_true_iff.mp (show (dy.okp && SeqAt.shaped dy.py) = true from hz.2)
    exact ⟨_, _, hx.dp a1, hy.dp b1, a2, b2, k.fz wm rfl⟩
  · cases hg

/-! ### in; is None -/
def occ (x z : Str) : Bool := match x.cps.toList with
  | [c] => decide (c ∈ z.cps.toList)
  | _ => !(Builtin.Str.occurrences z x 0 z.length 1).isEmpty
def inb (x : D) (ys : List D) : Bool := (pyL ys).any fun z => PyData.eqv z x.py
def gInL (n : Bool) (x : D) (ys : List D) : Option RV := if eqok x = true ∧ eqok (.lst ys) = true then some (.fz (.bl (if n = true then !inb x ys else inb x ys))) else none
def gInT (n : Bool) (x : D) (ys : List D) : Option RV := if eqok x = true ∧ eqok (.tup ys) = true then some (.fz (.bl (if n = true then !inb x ys else inb x ys))) else none
def gInS (n : Bool) (z : Str) : D → Option RV
  | .str x => some (.fz (.bl (if n = true then !occ x z else occ x z)))
  | _ => none
def gInW (n : Bool) (x : D) : D → Option RV
  | .str z => gInS n z x
  | .lst ys => gInL n x ys
  | .ro ys => gInL n x ys
  | .tup ys => gInT n x ys
  | _ => none
abbrev gIn := gInW false
abbrev gNotIn := gInW true
@[simp] def D.isNon : D → Bool
  | .non => true
  | _ => false
theorem isNon_ok {W : List Addr} {K : PySem.W.Frag} {H : Hp} : ∀ {d : D} {v : V}, Vz W K H d v → decide (v = .non) = d.isNon
  | .non, _, h => by cases h; rfl
  | .bl b, v, h => by cases (show v = .bl b from h); rfl
  | .int b, v, h => by cases (show v = .int b from h); rfl
  | .str b, v, h => by cases (show v = .str b from h); rfl
  | .tup xs, _, ⟨a, vs, e, _⟩ => by subst e; rfl
  | .lst xs, _, ⟨a, vs, e, _⟩ => by subst e; rfl
  | .ro xs, _, ⟨a, vs, e, _⟩ => by subst e; rfl
  | .dic ks xs, _, ⟨a, vs, e, _⟩ => by subst e; rfl
@[simp] def gIsW (n : Bool) : D → D → Option RV
  | x, .non => some (.fz (.bl (if n = true then !x.isNon else x.isNon)))
  | .bl a, .bl b => some (.fz (.bl (if n = true then !decide (a = b) else decide (a = b))))
  | _, _ => none
abbrev gIs := gIsW false
abbrev gIsNot := gIsW true
theorem o_isNot : Op2 X (compareOp .IsNot) gIsNot := by
  refine ⟨_, OpR.or op_notN op_notBl, fun W H x y dx dy r Q wm hx hy hg k => ?_⟩
  unfold gIsNot gIsW at hg
  split at hg
  · cases hg
    refine .inl ⟨hy, ?_⟩
    rw [isNon_ok hx]
    exact k.fz wm rfl
  · cases hg
    exact .inr ⟨_, _, hx, hy, k.fz wm rfl⟩
  · cases hg
end
end DL

set_option maxHeartbeats 2000000
namespace DL
open PySem PySem.Spec PyProof.Rows L2

theorem Rp.weak {W W' : List Addr} {K : PySem.W.Frag} {H : Hp} (s : ∀ a ∈ W, a ∈ W') (wm : WM W H) {d : D} {v : V} (h : Rp W' K H d v) (wm' : WM W' H) : Rp W K H d v :=
  Rp.mono (W := W') (H := H) ⟨wm', fun a o e n _ => ⟨e, fun z => n (s a z)⟩⟩ d h
theorem RpL.weak {W W' : List Addr} {K : PySem.W.Frag} {H : Hp} (s : ∀ a ∈ W, a ∈ W') (wm' : WM W' H) {ds : List D} {vs : List V} (h : RpL W' K H ds vs) : RpL W K H ds vs :=
  RpL.mono (W := W') (H := H) ⟨wm', fun a o e n _ => ⟨e, fun z => n (s a z)⟩⟩ ds h

section
variable {X : Cx}

/-! ## names and constants -/
@[simp] def pName (i : Nat) : FP := fun e => match e[i]? with
  | some (some (.d x)) => some (.fz x)
  | some (some (.lst xs)) => some (.ow xs)
  | _ => none
@[simp] def pCon (d : D) : FP := fun _ => some (.fz d)
theorem pp_name (i : Nat) {x : Str} {pos : Pos} (hN : X.N[i]? = some x := by rfl) (hv : Vis X.env.scope x := by first | exact Or.inl rfl | exact Or.inr (Or.inl rfl) | exact Or.inr (Or.inr rfl)) (hd : (x == ("__debug__" : Str)) = false := by decide)
    (hcd : (x == ("__classdict__" : Str)) = false := by decide) : PP X (.Name x pos) (pName i) := by
  refine PP.of ⟨tVar i, pe_var hN hv hd hcd, fun W H σ e Q r sr hf k => ?_⟩
  unfold pName at hf
  split at hf
  · rename_i y hy
    cases hf
    obtain ⟨v, h1, h2⟩ := sr.sl i _ hy
    exact ⟨v, h1, k v W H (.refl sr.wm) h2⟩
  · rename_i ys hy
    cases hf
    obtain ⟨v, h1, h2⟩ := sr.sl i _ hy
    exact ⟨v, h1, k v W H (.refl sr.wm) h2⟩
  · cases hf
theorem pp_con {ex : Expr} {d : D} {v : V} (h : PE X ex (tC v)) (hr : ∀ W H, Rp W X.K H d v) : PP X ex (pCon d) :=
  PP.of ⟨_, h, fun W H σ e Q r sr hf k => by cases hf; exact k v W H (.refl sr.wm) (hr W H)⟩
theorem pp_int {i j pos} : PP X (.Constant (.int i) j pos) (pCon (.int i)) := pp_con pe_int fun _ _ => rfl
theorem pp_bl {b j pos} : PP X (.Constant (.bool b) j pos) (pCon (.bl b)) := pp_con pe_bl fun _ _ => rfl
theorem pp_non {j pos} : PP X (.Constant .none j pos) (pCon .non) := pp_con pe_non fun _ _ => rfl
theorem pp_str {x j pos} : PP X (.Constant (.str x) j pos) (pCon (.str x)) := pp_con pe_str fun _ _ => rfl
theorem pp_glob {x : Str} {d : D} {v : V} {u : Value} {pos : Pos} (hm : X.mg x = some u) (r : RelV v u) (hr : ∀ W H, Rp W X.K H d v) (hg : Gl X x := by rfl) (hd : (x == ("__debug__" : Str)) = false := by decide) : PP X (.Name x pos) (pCon d) :=
  pp_con (pe_glob hg hm r hd) hr

/-! ## operators -/
@[simp] def p2 (g : D → D → Option RV) (fa fb : FP) : FP := fun e => (fa e).bind fun a => (fb e).bind fun b => g a.view b.view
@[simp] def p1 (g : D → Option RV) (fa : FP) : FP := fun e => (fa e).bind fun a => g a.view
variable {a b c : Expr} {fa fb fc : FP} {pos : Pos}
theorem pp_bin {op : Operator} {g : D → D → Option RV} (ho : Op2 X (binaryOp op) g) (ha : PP X a fa) (hb : PP X b fb) : PP X (.BinOp a op b pos) (p2 g fa fb) := by
  obtain ⟨rl, h1, h2⟩ := ho.run
  obtain ⟨ta, pa, ka⟩ := ha.run
  obtain ⟨tb, pb, kb⟩ := hb.run
  refine PP.of ⟨_, pe_op h1 pa pb, fun W H σ e Q r sr hf k => ?_⟩
  obtain ⟨ra, ea, hf⟩ := Option.bind_eq_some_iff.mp hf
  obtain ⟨rb, eb, hf⟩ := Option.bind_eq_some_iff.mp hf
  exact ka W H σ e _ ra sr ea fun x W1 H1 g1 k1 => kb W1 H1 σ e _ rb (g1.sr sr) eb fun y W2 H2 g2 k2 =>
    h2 W2 H2 x y _ _ r Q g2.wm (k1.vz.grow g2 g1.wm) k2.vz hf fun v W' H' g3 k3 => k v W' H' ((g1.trans g2).trans g3) (k3.back fun a h => g1.fresh (g2.fresh h))
theorem pp_un {op : UnaryOp} {g : D → Option RV} (ho : Op1 X (unaryOp op) g) (ha : PP X a fa) : PP X (.UnaryOp op a pos) (p1 g fa) := by
  obtain ⟨rl, h1, h2⟩ := ho.run
  obtain ⟨ta, pa, ka⟩ := ha.run
  refine PP.of ⟨_, pe_un h1 pa, fun W H σ e Q r sr hf k => ?_⟩
  obtain ⟨ra, ea, hf⟩ := Option.bind_eq_some_iff.mp hf
  exact ka W H σ e _ ra sr ea fun x W1 H1 g1 k1 => h2 W1 H1 x _ r Q g1.wm k1.vz hf fun v W' H' g3 k3 => k v W' H' (g1.trans g3) (k3.back fun a h => g1.fresh h)
theorem pp_cmp {op : CmpOp} {g : D → D → Option RV} (ho : Op2 X (compareOp op) g) (ha : PP X a fa) (hb : PP X b fb) (hm : behindInMarks op b = false := by first | exact nomark _ | with_unfolding_all rfl) : PP X (.Compare a [op] [b] pos) (p2 g fa fb) := by
  obtain ⟨rl, h1, h2⟩ := ho.run
  obtain ⟨ta, pa, ka⟩ := ha.run
  obtain ⟨tb, pb, kb⟩ := hb.run
  refine PP.of ⟨_, pe_cmpR h1 pa pb hm, fun W H σ e Q r sr hf k => ?_⟩
  obtain ⟨ra, ea, hf⟩ := Option.bind_eq_some_iff.mp hf
  obtain ⟨rb, eb, hf⟩ := Option.bind_eq_some_iff.mp hf
  exact ka W H σ e _ ra sr ea fun x W1 H1 g1 k1 => kb W1 H1 σ e _ rb (g1.sr sr) eb fun y W2 H2 g2 k2 =>
    h2 W2 H2 x y _ _ r Q g2.wm (k1.vz.grow g2 g1.wm) k2.vz hf fun v W' H' g3 k3 => k v W' H' ((g1.trans g2).trans g3) (k3.back fun a h => g1.fresh (g2.fresh h))
/-- a truth value -/
@[simp] def RV.b? : RV → Option Bool
  | .fz (.bl b) => some b
  | _ => none
theorem RV.b?_ok {r : RV} {b : Bool} (h : r.b? = some b) : r = .fz (.bl b) := by
  unfold RV.b? at h
  split at h
  · cases h; rfl
  · cases h
@[simp] def pChain (g g' : D → D → Option RV) (fa fb fc : FP) : FP := fun e => (fa e).bind fun a => (fb e).bind fun b => (g a.view b.view).bind fun r => r.b?.bind fun q => if q = true then (fc e).bind fun c => g' b.view c.view else some (.fz (.bl false))
theorem pp_chain {op op' : CmpOp} {g g' : D → D → Option RV} (ho : Op2 X (compareOp op) g) (ho' : Op2 X (compareOp op') g') (ha : PP X a fa) (hb : PP X b fb) (hc : PP X c fc)
    (hm : lastMarks [op, op'] [b, c] = false := by with_unfolding_all rfl) : PP X (.Compare a [op, op'] [b, c] pos) (pChain g g' fa fb fc) := by
  obtain ⟨rl, h1, h2⟩ := ho.run
  obtain ⟨rl', h1', h2'⟩ := ho'.run
  obtain ⟨ta, pa, ka⟩ := ha.run
  obtain ⟨tb, pb, kb⟩ := hb.run
  obtain ⟨tc, pc, kc⟩ := hc.run
  refine PP.of ⟨_, pe_chain h1 h1' pa pb pc hm, fun W H σ e Q r sr hf k => ?_⟩
  obtain ⟨ra, ea, hf⟩ := Option.bind_eq_some_iff.mp hf
  obtain ⟨rb, eb, hf⟩ := Option.bind_eq_some_iff.mp hf
  obtain ⟨r1, e1, hf⟩ := Option.bind_eq_some_iff.mp hf
  obtain ⟨q, e2, hy⟩ := Option.bind_eq_some_iff.mp hf
  have e3 := RV.b?_ok e2
  subst e3
  refine ka W H σ e _ ra sr ea fun x W1 H1 g1 k1 => kb W1 H1 σ e _ rb (g1.sr sr) eb fun y W2 H2 g2 k2 =>
    h2 W2 H2 x y _ _ _ _ g2.wm (k1.vz.grow g2 g1.wm) k2.vz e1 fun v W3 H3 g3 k3 => ⟨q, k3, ?_⟩
  have g13 := (g1.trans g2).trans g3
  cases q with
  | false =>
    cases hy
    exact k _ W3 H3 g13 rfl
  | true =>
    obtain ⟨rc, ec, hy⟩ := Option.bind_eq_some_iff.mp hy
    show tc σ H3 _
    exact kc W3 H3 σ e _ rc (g13.sr sr) ec fun z W4 H4 g4 k4 => h2' W4 H4 y z _ _ r Q g4.wm (k2.vz.grow (g3.trans g4) g2.wm) k4.vz hy fun v W' H' g5 k5 => k v W' H' ((g13.trans g4).trans g5) (k5.back fun a h => g13.fresh (g4.fresh h))

/-! ## tests -/
@[simp] def tVal (fa : FP) : FT := fun e => (fa e).bind RV.b?
theorem tp_val (ha : PP X a fa) (he : ∀ whole, isTrue a X.env whole = (do let v ← whole; standAt a.pos; holding [v] (truthy v)) := by intro _; rfl) : TP X a (tVal fa) := by
  obtain ⟨ta, pa, ka⟩ := ha.run
  refine TP.of ⟨_, pt_val pa he, fun W H σ e Q q sr hf k => ?_⟩
  obtain ⟨r, er, hf⟩ := Option.bind_eq_some_iff.mp hf
  have e3 := RV.b?_ok hf
  subst e3
  exact ka W H σ e _ _ sr er fun v W' H' g h => ⟨q, h, k W' H' g⟩
theorem tp_cmp {op : CmpOp} {g : D → D → Option RV} (ho : Op2 X (compareOp op) g) (ha : PP X a fa) (hb : PP X b fb) (hm : behindInMarks op b = false := by first | exact nomark _ | with_unfolding_all rfl) : TP X (.Compare a [op] [b] pos) (tVal (p2 g fa fb)) := by
  obtain ⟨rl, h1, h2⟩ := ho.run
  obtain ⟨ta, pa, ka⟩ := ha.run
  obtain ⟨tb, pb, kb⟩ := hb.run
  refine TP.of ⟨_, pt_cmpR h1 pa pb hm, fun W H σ e Q q sr hf k => ?_⟩
  obtain ⟨r, hf, er⟩ := Option.bind_eq_some_iff.mp hf
  have e3 := RV.b?_ok er
  subst e3
  obtain ⟨ra, ea, hf⟩ := Option.bind_eq_some_iff.mp hf
  obtain ⟨rb, eb, hf⟩ := Option.bind_eq_some_iff.mp hf
  exact ka W H σ e _ ra sr ea fun x W1 H1 g1 k1 => kb W1 H1 σ e _ rb (g1.sr sr) eb fun y W2 H2 g2 k2 =>
    h2 W2 H2 x y _ _ _ _ g2.wm (k1.vz.grow g2 g1.wm) k2.vz hf fun v W' H' g3 k3 => ⟨q, k3, k W' H' ((g1.trans g2).trans g3)⟩
theorem tp_chain {op op' : CmpOp} {g g' : D → D → Option RV} (ho : Op2 X (compareOp op) g) (ho' : Op2 X (compareOp op') g') (ha : PP X a fa) (hb : PP X b fb) (hc : PP X c fc)
    (hm : lastMarks [op, op'] [b, c] = false := by with_unfolding_all rfl) : TP X (.Compare a [op, op'] [b, c] pos) (tVal (pChain g g' fa fb fc)) := by
  obtain ⟨rl, h1, h2⟩ := ho.run
  obtain ⟨rl', h1', h2'⟩ := ho'.run
  obtain ⟨ta, pa, ka⟩ := ha.run
  obtain ⟨tb, pb, kb⟩ := hb.run
  obtain ⟨tc, pc, kc⟩ := hc.run
  refine TP.of ⟨_, pt_chain h1 h1' pa pb pc hm, fun W H σ e Q qq sr hf k => ?_⟩
  obtain ⟨r, hf, er⟩ := Option.bind_eq_some_iff.mp hf
  have e4 := RV.b?_ok er
  subst e4
  obtain ⟨ra, ea, hf⟩ := Option.bind_eq_some_iff.mp hf
  obtain ⟨rb, eb, hf⟩ := Option.bind_eq_some_iff.mp hf
  obtain ⟨r1, e1, hf⟩ := Option.bind_eq_some_iff.mp hf
  obtain ⟨q, e2, hy⟩ := Option.bind_eq_some_iff.mp hf
  have e3 := RV.b?_ok e2
  subst e3
  refine ka W H σ e _ ra sr ea fun x W1 H1 g1 k1 => kb W1 H1 σ e _ rb (g1.sr sr) eb fun y W2 H2 g2 k2 =>
    h2 W2 H2 x y _ _ _ _ g2.wm (k1.vz.grow g2 g1.wm) k2.vz e1 fun v W3 H3 g3 k3 => ⟨q, k3, ?_⟩
  have g13 := (g1.trans g2).trans g3
  cases q with
  | false =>
    cases hy
    exact ⟨false, rfl, k W3 H3 g13⟩
  | true =>
    obtain ⟨rc, ec, hy⟩ := Option.bind_eq_some_iff.mp hy
    show tc σ H3 _
    exact kc W3 H3 σ e _ rc (g13.sr sr) ec fun z W4 H4 g4 k4 => h2' W4 H4 y z _ _ _ _ g4.wm (k2.vz.grow (g3.trans g4) g2.wm) k4.vz hy fun v W' H' g5 k5 => ⟨qq, k5, k W' H' ((g13.trans g4).trans g5)⟩
/-- and, or chains -/
structure WP (X : Cx) (ex : Expr) (f : FT) : Prop where
  pw : PW X ex (tT X.K f)
theorem WP.of {X : Cx} {ex : Expr} {f : FT} (h : ∃ t : TT, PW X ex t ∧ ∀ (W : List Addr) (H : Hp) (σ : St) (e : En) (Q : Bool → Hp → Prop) (b : Bool), SR W X.K H σ e → f e = some b →
    (∀ W' H', Grow X.K W H W' H' → Q b H') → t σ H Q) : WP X ex f :=
  let ⟨_, p, k⟩ := h; ⟨⟨fun wh pins s σ H Q I ⟨W, e, r, a, b, c⟩ => p.run wh pins s σ H Q I (k W H σ e Q r a b c)⟩⟩
theorem WP.run {X : Cx} {ex : Expr} {f : FT} (h : WP X ex f) : ∃ t : TT, PW X ex t ∧ ∀ (W : List Addr) (H : Hp) (σ : St) (e : En) (Q : Bool → Hp → Prop) (b : Bool), SR W X.K H σ e → f e = some b →
    (∀ W' H', Grow X.K W H W' H' → Q b H') → t σ H Q := ⟨_, h.pw, fun W H σ e Q r a b c => ⟨W, e, r, a, b, c⟩⟩
@[simp] def tAnd (fa fb : FT) : FT := fun e => (fa e).bind fun q => if q = true then fb e else some false
@[simp] def tOr (fa fb : FT) : FT := fun e => (fa e).bind fun q => if q = true then some true else fb e
@[simp] def tNot (fa : FT) : FT := fun e => (fa e).map not
variable {ta tb : FT} {rest : List Expr}
theorem wp_and1 (ha : TP X a ta) : WP X (.BoolOp .And [a] pos) ta := let ⟨t, p, k⟩ := ha.run; WP.of ⟨t, pw_and1 p, k⟩
theorem wp_or1 (ha : TP X a ta) : WP X (.BoolOp .Or [a] pos) ta := let ⟨t, p, k⟩ := ha.run; WP.of ⟨t, pw_or1 p, k⟩
theorem WP.tp {ex : Expr} {f : FT} (h : WP X ex f) : TP X ex f := ⟨h.pw.pt⟩
theorem wp_and (ha : TP X a ta) (hb : WP X (.BoolOp .And (b :: rest) pos) tb) : WP X (.BoolOp .And (a :: b :: rest) pos) (tAnd ta tb) := by
  obtain ⟨t, p, ka⟩ := ha.run
  obtain ⟨u, p', kb⟩ := hb.run
  refine WP.of ⟨_, pw_and p p', fun W H σ e Q q sr hf k => ?_⟩
  obtain ⟨q1, e1, hf⟩ := Option.bind_eq_some_iff.mp hf
  refine ka W H σ e _ q1 sr e1 fun W1 H1 g1 => ?_
  cases q1 with
  | true => exact kb W1 H1 σ e Q q (g1.sr sr) hf fun W' H' g2 => k W' H' (g1.trans g2)
  | false => cases hf; exact k W1 H1 g1
theorem wp_or (ha : TP X a ta) (hb : WP X (.BoolOp .Or (b :: rest) pos) tb) : WP X (.BoolOp .Or (a :: b :: rest) pos) (tOr ta tb) := by
  obtain ⟨t, p, ka⟩ := ha.run
  obtain ⟨u, p', kb⟩ := hb.run
  refine WP.of ⟨_, pw_or p p', fun W H σ e Q q sr hf k => ?_⟩
  obtain ⟨q1, e1, hf⟩ := Option.bind_eq_some_iff.mp hf
  refine ka W H σ e _ q1 sr e1 fun W1 H1 g1 => ?_
  cases q1 with
  | false => exact kb W1 H1 σ e Q q (g1.sr sr) hf fun W' H' g2 => k W' H' (g1.trans g2)
  | true => cases hf; exact k W1 H1 g1
theorem tp_not (ha : TP X a ta) : TP X (.UnaryOp .Not a pos) (tNot ta) := by
  obtain ⟨t, p, ka⟩ := ha.run
  refine TP.of ⟨_, pt_not p, fun W H σ e Q q sr hf k => ?_⟩
  obtain ⟨q1, e1, hf⟩ := Option.map_eq_some_iff.mp hf
  subst hf
  exact ka W H σ e _ q1 sr e1 fun W1 H1 g1 => k W1 H1 g1
/-! as values -/
@[simp] def pAnd (fa fb : FP) : FP := fun e => (fa e).bind fun r => r.b?.bind fun q => if q = true then fb e else some (.fz (.bl false))
@[simp] def pOr (fa fb : FP) : FP := fun e => (fa e).bind fun r => r.b?.bind fun q => if q = true then some (.fz (.bl true)) else fb e
@[simp] def pNot (fa : FP) : FP := fun e => (fa e).bind fun r => r.b?.map fun q => .fz (.bl (!q))
theorem pp_one {op} (h : PP X a fa) : PP X (.BoolOp op [a] pos) fa := let ⟨t, p, k⟩ := h.run; PP.of ⟨t, pe_one p, k⟩
theorem pp_and (ha : PP X a fa) (hb : PP X (.BoolOp .And (b :: rest) pos) fb) : PP X (.BoolOp .And (a :: b :: rest) pos) (pAnd fa fb) := by
  obtain ⟨t, p, ka⟩ := ha.run
  obtain ⟨u, p', kb⟩ := hb.run
  refine PP.of ⟨_, pe_and p p', fun W H σ e Q r sr hf k => ?_⟩
  obtain ⟨r1, e1, hf⟩ := Option.bind_eq_some_iff.mp hf
  obtain ⟨q, e2, hy⟩ := Option.bind_eq_some_iff.mp hf
  have e3 := RV.b?_ok e2
  subst e3
  refine ka W H σ e _ _ sr e1 fun v W1 H1 g1 k1 => ⟨q, k1, ?_⟩
  cases q with
  | true => exact kb W1 H1 σ e Q r (g1.sr sr) hy fun v W' H' g2 k2 => k v W' H' (g1.trans g2) (k2.back fun a h => g1.fresh h)
  | false => cases hy; exact k _ W1 H1 g1 rfl
theorem pp_not (ha : PP X a fa) : PP X (.UnaryOp .Not a pos) (pNot fa) := by
  obtain ⟨t, p, ka⟩ := ha.run
  refine PP.of ⟨_, pe_not p, fun W H σ e Q r sr hf k => ?_⟩
  obtain ⟨r1, e1, hf⟩ := Option.bind_eq_some_iff.mp hf
  obtain ⟨q, e2, hy⟩ := Option.map_eq_some_iff.mp hf
  have e3 := RV.b?_ok e2
  subst e3
  subst hy
  exact ka W H σ e _ _ sr e1 fun v W1 H1 g1 k1 => ⟨q, k1, k _ W1 H1 g1 rfl⟩
@[simp] def pIf (t : FT) (fa fb : FP) : FP := fun e => (t e).bind fun q => if q = true then fa e else fb e
theorem pp_if (hc : TP X c ta) (ha : PP X a fa) (hb : PP X b fb) : PP X (.IfExp c a b pos) (pIf ta fa fb) := by
  obtain ⟨t, p, kc⟩ := hc.run
  obtain ⟨ua, pa, ka⟩ := ha.run
  obtain ⟨ub, pb, kb⟩ := hb.run
  refine PP.of ⟨_, pe_ifExp p pa pb, fun W H σ e Q r sr hf k => ?_⟩
  obtain ⟨q, e1, hf⟩ := Option.bind_eq_some_iff.mp hf
  refine kc W H σ e _ q sr e1 fun W1 H1 g1 => ?_
  cases q with
  | true => exact ka W1 H1 σ e Q r (g1.sr sr) hf fun v W' H' g2 k2 => k v W' H' (g1.trans g2) (k2.back fun a h => g1.fresh h)
  | false => exact kb W1 H1 σ e Q r (g1.sr sr) hf fun v W' H' g2 k2 => k v W' H' (g1.trans g2) (k2.back fun a h => g1.fresh h)

/-! ## argument lists, displays -/
variable {es : List Expr} {fs : En → Option (List RV)}
@[simp] def aNil : En → Option (List RV) := fun _ => some []
@[simp] def aCons (fa : FP) (fs : En → Option (List RV)) : En → Option (List RV) := fun e => (fa e).bind fun a => (fs e).map fun rs => a :: rs
theorem aa_nil : PPs X [] aNil := PPs.of ⟨_, pa_nil, fun W H σ e Q rs sr hf k => by cases hf; exact k [] W H (.refl sr.wm) rfl⟩
theorem aa_cons (ha : PP X a fa) (hr : PPs X es fs) (hs : starEach (a :: es) X.env = (false, eval a X.env) :: starEach es X.env := by rfl) : PPs X (a :: es) (aCons fa fs) := by
  obtain ⟨t, p, ka⟩ := ha.run
  obtain ⟨u, p', kb⟩ := hr.run
  refine PPs.of ⟨_, pa_cons p p' hs, fun W H σ e Q rs sr hf k => ?_⟩
  obtain ⟨r1, e1, hf⟩ := Option.bind_eq_some_iff.mp hf
  obtain ⟨r2, e2, hf⟩ := Option.map_eq_some_iff.mp hf
  subst hf
  exact ka W H σ e _ r1 sr e1 fun v W1 H1 g1 k1 => kb W1 H1 σ e _ r2 (g1.sr sr) e2 fun vs W' H' g2 k2 => k _ W' H' (g1.trans g2) ⟨v, vs, rfl, k1.grow g2 g1.wm, k2.back fun a h => g1.fresh h⟩
/-- what may be put into a container -/
@[simp] def RV.item : RV → Option D
  | .fz x => some x
  | .fr xs => some (.lst xs)
  | .ow _ => none
@[simp] def items : List RV → Option (List D)
  | [] => some []
  | r :: rs => r.item.bind fun x => (items rs).map fun xs => x :: xs
theorem RVok.item {W W' : List Addr} {K : PySem.W.Frag} {H H' : Hp} (g : Grow K W H W' H') (wm : WM W H) : ∀ {r : RV} {v : V} {x : D}, RVok W' K H H' r v → r.item = some x → Rp W K H' x v
  | .fz y, v, x, h, e => by cases e; exact Rp.weak g.sub (g.base wm).wm h g.wm
  | .fr ys, v, x, h, e => by
    cases e
    obtain ⟨a, vs, e, h0, h1, h2, h3⟩ := h
    exact ⟨a, vs, e, ⟨h2, fun z => isSome_of_mut (wm a z) h0⟩, RpL.weak g.sub g.wm h3⟩
theorem RVs.items {W W' : List Addr} {K : PySem.W.Frag} {H H' : Hp} (g : Grow K W H W' H') (wm : WM W H) : ∀ {rs : List RV} {vs : List V} {xs : List D}, RVs W' K H H' rs vs → DL.items rs = some xs → RpL W K H' xs vs
  | [], vs, xs, h, e => by cases e; exact h
  | r :: rs, _, xs, ⟨v, us, ev, h1, h2⟩, e => by
    obtain ⟨x, e1, e⟩ := Option.bind_eq_some_iff.mp e
    obtain ⟨ys, e2, e⟩ := Option.map_eq_some_iff.mp e
    subst e
    exact ⟨v, us, ev, h1.item g wm e1, RVs.items g wm h2 e2⟩
@[simp] def pTup (fs : En → Option (List RV)) : FP := fun e => (fs e).bind fun rs => (items rs).bind fun xs => if xs.length ≤ SZ then some (.fz (.tup xs)) else none
@[simp] def pLst (fs : En → Option (List RV)) : FP := fun e => (fs e).bind fun rs => (items rs).bind fun xs => if xs.length ≤ SZ then some (.fr xs) else none
theorem pp_tup {x1} (h : PPs X es fs) : PP X (.Tuple es x1 pos) (pTup fs) := by
  obtain ⟨t, p, ka⟩ := h.run
  refine PP.of ⟨_, pe_tupN p, fun W H σ e Q r sr hf k => ?_⟩
  obtain ⟨rs, e1, hf⟩ := Option.bind_eq_some_iff.mp hf
  obtain ⟨xs, e2, hf⟩ := Option.bind_eq_some_iff.mp hf
  split at hf
  · rename_i hz
    cases hf
    refine ka W H σ e _ rs sr e1 fun vs W1 H1 g1 k1 => ?_
    have q := k1.items g1 sr.wm e2
    refine ⟨by rw [SZ_eq, ← q.length]; exact hz, ?_⟩
    have g0 := g1.base sr.wm
    exact KQ.tup (Q := Q) g0.wm (fun v W' H' g3 k3 => k v W' H' (g0.trans g3) k3) q
  · cases hf
theorem pp_lst (h : PPs X es fs) : PP X (.List es pos) (pLst fs) := by
  obtain ⟨t, p, ka⟩ := h.run
  refine PP.of ⟨_, pe_lst p, fun W H σ e Q r sr hf k => ?_⟩
  obtain ⟨rs, e1, hf⟩ := Option.bind_eq_some_iff.mp hf
  obtain ⟨xs, e2, hf⟩ := Option.bind_eq_some_iff.mp hf
  split at hf
  · rename_i hz
    cases hf
    refine ka W H σ e _ rs sr e1 fun vs W1 H1 g1 k1 => ?_
    have q := k1.items g1 sr.wm e2
    refine ⟨by rw [SZ_eq, ← q.length]; exact hz, fun pp hn => ?_⟩
    have g0 := g1.base sr.wm
    exact KQ.fr (Q := Q) g0.wm (fun v W' H' g3 k3 => k v W' H' (g0.trans g3) (k3.back fun a h => g0.fresh h)) q pp hn
  · cases hf

/-! ## subscripts, slices -/
structure Ix2 (X : Cx) (g : D → D → Option RV) : Prop where
  run : ∃ rl : R2, IxR X rl ∧ ∀ (W : List Addr) (H : Hp) (x y : V) (dx dy : D) (r : RV) (Q : VK), WM W H → Vz W X.K H dx x → Vz W X.K H dy y → g dx dy = some r → KQ W X.K H r Q → rl x y H Q
theorem pp_ix0 {g : D → D → Option RV} (ho : Ix2 X g) (ha : PP X a fa) (hb : PP X b fb) (hs : PlainIx b := by intro _ _; rfl) : PP X (.Subscript a b pos) (p2 g fa fb) := by
  obtain ⟨rl, h1, h2⟩ := ho.run
  obtain ⟨ta, pa, ka⟩ := ha.run
  obtain ⟨tb, pb, kb⟩ := hb.run
  refine PP.of ⟨_, pe_ix h1 pa pb hs, fun W H σ e Q r sr hf k => ?_⟩
  obtain ⟨ra, ea, hf⟩ := Option.bind_eq_some_iff.mp hf
  obtain ⟨rb, eb, hf⟩ := Option.bind_eq_some_iff.mp hf
  exact ka W H σ e _ ra sr ea fun x W1 H1 g1 k1 => kb W1 H1 σ e _ rb (g1.sr sr) eb fun y W2 H2 g2 k2 =>
    h2 W2 H2 x y _ _ r Q g2.wm (k1.vz.grow g2 g1.wm) k2.vz hf fun v W' H' g3 k3 => k v W' H' ((g1.trans g2).trans g3) (k3.back fun a h => g1.fresh (g2.fresh h))
@[simp] def gIx : D → D → Option RV
  | .tup xs, .int i => (atI xs i).map .fz
  | .lst xs, .int i => (atI xs i).map .fz
  | .ro xs, .int i => (atI xs i).map .fz
  | .str z, .int i => if z.length ≤ SZ then (atI z.cps.toList i).map fun c => .fz (.str ⟨#[c]⟩) else none
  | _, _ => none
theorem RpL.at {W : List Addr} {K : PySem.W.Frag} {H : Hp} {ds : List D} {vs : List V} {i : Int} {d : D} (h : RpL W K H ds vs) (e : atI ds i = some d) : ∃ v, atI vs i = some v ∧ Rp W K H d v := by
  unfold atI at e ⊢
  rw [← h.length]
  obtain ⟨j, e1, e2⟩ := Option.bind_eq_some_iff.mp e
  obtain ⟨v, e3, r⟩ := h.get e2
  exact ⟨v, by rw [e1]; exact e3, r⟩
theorem ix_ok : Ix2 X gIx := by
  refine ⟨_, ix_seq, fun W H x y dx dy r Q wm hx hy hg k => ?_⟩
  unfold gIx at hg
  split at hg
  · obtain ⟨d, e, hg⟩ := Option.map_eq_some_iff.mp hg
    subst hg
    obtain ⟨p, vs, e1, h1, r1⟩ := hx
    obtain ⟨v, e2, q⟩ := r1.at e
    exact .inr (.inl ⟨p, vs, _, v, e1, hy, h1.1, e2, k.fz wm q⟩)
  · obtain ⟨d, e, hg⟩ := Option.map_eq_some_iff.mp hg
    subst hg
    obtain ⟨p, vs, e1, h1, r1⟩ := hx
    obtain ⟨v, e2, q⟩ := r1.at e
    exact .inl ⟨p, vs, _, v, e1, hy, .of h1, e2, k.fz wm q⟩
  · obtain ⟨d, e, hg⟩ := Option.map_eq_some_iff.mp hg
    subst hg
    obtain ⟨p, vs, e1, h1, r1⟩ := hx
    obtain ⟨v, e2, q⟩ := r1.at e
    exact .inl ⟨p, vs, _, v, e1, hy, h1.seq, e2, k.fz wm q⟩
  · split at hg
    · rename_i hz
      obtain ⟨c, e, hg⟩ := Option.map_eq_some_iff.mp hg
      subst hg
      exact .inr (.inr ⟨_, _, c, hx, hy, by rw [SZ_eq]; exact hz, e, k.fz wm rfl⟩)
    · cases hg
  · cases hg
theorem pp_ix (ha : PP X a fa) (hb : PP X b fb) (hs : PlainIx b := by intro _ _; rfl) : PP X (.Subscript a b pos) (p2 gIx fa fb) := pp_ix0 ix_ok ha hb hs

/-- a slice's part -/
abbrev FO := En → Option (Option Int)
def tO (K : PySem.W.Frag) (f : FO) : TO := fun σ H Q => ∃ (W : List Addr) (e : En) (o : Option Int), SR W K H σ e ∧ f e = some o ∧ ∀ W' H', Grow K W H W' H' → Q o H'
structure OP (X : Cx) (ex : Option Expr) (f : FO) : Prop where
  po : PO X ex (tO X.K f)
theorem OP.of {X : Cx} {ex : Option Expr} {f : FO} (h : ∃ t : TO, PO X ex t ∧ ∀ (W : List Addr) (H : Hp) (σ : St) (e : En) (Q : Option Int → Hp → Prop) (o : Option Int), SR W X.K H σ e → f e = some o →
    (∀ W' H', Grow X.K W H W' H' → Q o H') → t σ H Q) : OP X ex f :=
  let ⟨_, p, k⟩ := h; ⟨⟨fun pins s σ H Q I ⟨W, e, r, a, b, c⟩ => p.run pins s σ H Q I (k W H σ e Q r a b c)⟩⟩
theorem OP.run {X : Cx} {ex : Option Expr} {f : FO} (h : OP X ex f) : ∃ t : TO, PO X ex t ∧ ∀ (W : List Addr) (H : Hp) (σ : St) (e : En) (Q : Option Int → Hp → Prop) (o : Option Int), SR W X.K H σ e → f e = some o →
    (∀ W' H', Grow X.K W H W' H' → Q o H') → t σ H Q := ⟨_, h.po, fun W H σ e Q r a b c => ⟨W, e, r, a, b, c⟩⟩
@[simp] def oNone : En → Option (Option Int) := fun _ => some none
@[simp] def RV.i? : RV → Option Int
  | .fz (.int b) => some b
  | _ => none
theorem RV.i?_ok {r : RV} {b : Int} (h : r.i? = some b) : r = .fz (.int b) := by
  unfold RV.i? at h
  split at h
  · cases h; rfl
  · cases h
@[simp] def oSome (fa : FP) : En → Option (Option Int) := fun e => (fa e).bind fun r => r.i?.map some
theorem op_none : OP X none oNone := OP.of ⟨_, po_none, fun W H σ e Q o sr hf k => by cases hf; exact k W H (.refl sr.wm)⟩
theorem op_some (ha : PP X a fa) : OP X (some a) (oSome fa) := by
  obtain ⟨t, p, ka⟩ := ha.run
  refine OP.of ⟨_, po_some p, fun W H σ e Q o sr hf k => ?_⟩
  obtain ⟨r, e1, hf⟩ := Option.bind_eq_some_iff.mp hf
  obtain ⟨i, e2, hy⟩ := Option.map_eq_some_iff.mp hf
  have e3 := RV.i?_ok e2
  subst e3 hy
  exact ka W H σ e _ _ sr e1 fun v W1 H1 g1 k1 => ⟨i, k1, k W1 H1 g1⟩
def cutD {α : Type} (xs : List α) (lo hi : Option Int) : List α := (xs.drop (HT.sIx xs.length 0 lo)).take (HT.sIx xs.length xs.length hi - HT.sIx xs.length 0 lo)
@[simp] def gSl : D → Option Int → Option Int → Option RV
  | .tup xs, lo, hi => some (.fz (.tup (cutD xs lo hi)))
  | .lst xs, lo, hi => some (.fr (cutD xs lo hi))
  | .ro xs, lo, hi => some (.fr (cutD xs lo hi))
  | .str z, lo, hi => if z.length ≤ SZ then some (.fz (.str (cutS z lo hi))) else none
  | _, _, _ => none
theorem RpL.cut {W : List Addr} {K : PySem.W.Frag} {H : Hp} {ds : List D} {vs : List V} (lo hi : Option Int) (h : RpL W K H ds vs) : RpL W K H (cutD ds lo hi) (cutV vs lo hi) := by
  unfold cutD cutV
  rw [h.length]
  exact (h.drop _).take _
theorem cutD_all {α : Type} {xs : List α} {lo hi : Option Int} (h : HT.sIx xs.length 0 lo = 0 ∧ HT.sIx xs.length xs.length hi = xs.length) : cutD xs lo hi = xs := by
  unfold cutD
  rw [h.1, h.2]
  simp
@[simp] def pSl (fa : FP) (fl fh : En → Option (Option Int)) : FP := fun e => (fa e).bind fun a => (fl e).bind fun lo => (fh e).bind fun hi => gSl a.view lo hi
theorem pp_slice {lo hi : Option Expr} {fl fh : En → Option (Option Int)} {p2 : Pos} (ha : PP X a fa) (hl : OP X lo fl) (hh : OP X hi fh) : PP X (.Subscript a (.Slice lo hi none p2) pos) (pSl fa fl fh) := by
  obtain ⟨ta, pa, ka⟩ := ha.run
  obtain ⟨tl, pl, kl⟩ := hl.run
  obtain ⟨th, ph, kh⟩ := hh.run
  refine PP.of ⟨_, pe_slice (sl_list.or (sl_tupN.or sl_str)) pa pl ph, fun W H σ e Q r sr hf k => ?_⟩
  obtain ⟨ra, ea, hf⟩ := Option.bind_eq_some_iff.mp hf
  obtain ⟨l, el, hf⟩ := Option.bind_eq_some_iff.mp hf
  obtain ⟨u, eu, hf⟩ := Option.bind_eq_some_iff.mp hf
  refine ka W H σ e _ ra sr ea fun x W1 H1 g1 k1 => kl W1 H1 σ e _ l (g1.sr sr) el fun W2 H2 g2 => kh W2 H2 σ e _ u ((g1.trans g2).sr sr) eu fun W3 H3 g3 => ?_
  have g13 := (g1.trans g2).trans g3
  have hx := k1.vz.grow (g2.trans g3) g1.wm
  have wm := g13.wm
  have k' : KQ W3 X.K H3 r Q := fun v W' H' g4 k4 => k v W' H' (g13.trans g4) (k4.back fun a h => g13.fresh h)
  revert hx hf
  generalize ra.view = dx
  intro hf hx
  unfold gSl at hf
  split at hf
  · cases hf
    obtain ⟨p, vs, e1, h1, r1⟩ := hx
    refine .inr (.inl ⟨p, vs, e1, h1.1, fun h => ?_, fun _ => k'.tup wm (r1.cut l u)⟩)
    refine k'.fz wm ⟨p, vs, rfl, h1, ?_⟩
    rw [← r1.length] at h
    rw [cutD_all h]
    exact r1
  · cases hf
    obtain ⟨p, vs, e1, h1, r1⟩ := hx
    exact .inl ⟨p, vs, e1, .of h1, k'.fr wm (r1.cut l u)⟩
  · cases hf
    obtain ⟨p, vs, e1, h1, r1⟩ := hx
    exact .inl ⟨p, vs, e1, h1.seq, k'.fr wm (r1.cut l u)⟩
  · split at hf
    · rename_i hz
      cases hf
      exact .inr (.inr ⟨_, hx, by rw [SZ_eq]; exact hz, k'.fz wm rfl⟩)
    · cases hf
  · cases hf
end
end DL

set_option maxHeartbeats 2000000
namespace DL
open PySem PySem.Spec PyProof.Rows L2

/-! ## built-in functions by data -/
def VzL (W : List Addr) (K : PySem.W.Frag) (H : Hp) : List D → List V → Prop
  | [], vs => vs = []
  | d :: ds, vs => ∃ v us, vs = v :: us ∧ Vz W K H d v ∧ VzL W K H ds us
theorem RVs.vzL {W' : List Addr} {K : PySem.W.Frag} {H H' : Hp} : ∀ {rs : List RV} {vs : List V}, RVs W' K H H' rs vs → VzL W' K H' (rs.map RV.view) vs
  | [], _, h => h
  | _ :: _, _, ⟨v, us, e, h1, h2⟩ => ⟨v, us, e, h1.vz, RVs.vzL h2⟩
structure Ca (X : Cx) (f : Value) (g : List D → Option RV) : Prop where
  run : ∃ rl : List V → Hp → VK → Prop, CallR X f rl ∧ ∀ (W : List Addr) (H : Hp) (xs : List V) (ds : List D) (r : RV) (Q : VK), WM W H → VzL W X.K H ds xs → g ds = some r → KQ W X.K H r Q → rl xs H Q
section
variable {X : Cx} {g : List D → Option RV} {fs : FA} {x : Str} {p pos : Pos} {a : Expr} {es : List Expr} {id T : String}
@[simp] def pCa (g : List D → Option RV) (fs : FA) : FP := fun e => (fs e).bind fun rs => g (rs.map RV.view)
theorem pp_callB (hc : Ca X (.builtin id) g) (hm : X.mg x = none) (ha : PPs X (a :: es) fs) (hg : Gl X x := by rfl) (hv : bootBuiltins x = some (.builtin id) := by decide +kernel) (hn : x ≠ "__name__" := by decide) (hdb : (x == ("__debug__" : Str)) = false := by decide)
    (he : starEach (a :: es) X.env = (false, eval a X.env) :: starEach es X.env := by rfl) (hpl : (backTo pos (starEach es X.env)).any (·.1) = false := by rfl) : PP X (.Call (.Name x p) (a :: es) [] pos) (pCa g fs) := by
  obtain ⟨rl, h1, h2⟩ := hc.run
  obtain ⟨t, pa, ka⟩ := ha.run
  refine PP.of ⟨_, pe_callB h1 hg hm hv pa hn hdb he hpl, fun W H σ e Q r sr hf k => ?_⟩
  obtain ⟨rs, e1, hf⟩ := Option.bind_eq_some_iff.mp hf
  exact ka W H σ e _ rs sr e1 fun vs W1 H1 g1 k1 => h2 W1 H1 vs _ r Q g1.wm k1.vzL hf fun v W' H' g2 k2 => k v W' H' (g1.trans g2) (k2.back fun a h => g1.fresh h)
theorem pp_callT (hc : Ca X (.type T) g) (hm : X.mg x = none) (ha : PPs X (a :: es) fs) (hg : Gl X x := by rfl) (hv : bootBuiltins x = some (.type T) := by decide +kernel) (hn : x ≠ "__name__" := by decide) (hdb : (x == ("__debug__" : Str)) = false := by decide)
    (he : starEach (a :: es) X.env = (false, eval a X.env) :: starEach es X.env := by rfl) (hpl : (backTo pos (starEach es X.env)).any (·.1) = false := by rfl) : PP X (.Call (.Name x p) (a :: es) [] pos) (pCa g fs) := by
  obtain ⟨rl, h1, h2⟩ := hc.run
  obtain ⟨t, pa, ka⟩ := ha.run
  refine PP.of ⟨_, pe_callTy h1 hg hm hv pa hn hdb he hpl, fun W H σ e Q r sr hf k => ?_⟩
  obtain ⟨rs, e1, hf⟩ := Option.bind_eq_some_iff.mp hf
  exact ka W H σ e _ rs sr e1 fun vs W1 H1 g1 k1 => h2 W1 H1 vs _ r Q g1.wm k1.vzL hf fun v W' H' g2 k2 => k v W' H' (g1.trans g2) (k2.back fun a h => g1.fresh h)
end
section
variable {X : Cx} {W : List Addr} {K : PySem.W.Frag} {H : Hp}
@[simp] def gLen : List D → Option RV
  | [.str z] => if z.length ≤ SZ then some (.fz (.int z.length)) else none
  | [.lst xs] => some (.fz (.int xs.length))
  | [.ro xs] => some (.fz (.int xs.length))
  | [.tup xs] => some (.fz (.int xs.length))
  | _ => none
theorem c_len : Ca X (.builtin "len") gLen := by
  refine ⟨_, call_len, fun W H xs ds r Q wm hx hg k => ?_⟩
  unfold gLen at hg
  split at hg
  · split at hg
    · rename_i z hz
      cases hg
      obtain ⟨v, us, rfl, h1, h2⟩ := hx
      cases (show us = [] from h2)
      cases (show v = .str z from h1)
      exact ⟨_, z.length, rfl, ⟨by rw [SZ_eq]; exact hz, rfl⟩, k.fz wm rfl⟩
    · cases hg
  · rename_i ys
    cases hg
    obtain ⟨v, us, rfl, ⟨a, vs, rfl, h1, r1⟩, h2⟩ := hx
    cases (show us = [] from h2)
    exact ⟨_, ys.length, rfl, .inl ⟨vs, .of h1, r1.length⟩, k.fz wm rfl⟩
  · rename_i ys
    cases hg
    obtain ⟨v, us, rfl, ⟨a, vs, rfl, h1, r1⟩, h2⟩ := hx
    cases (show us = [] from h2)
    exact ⟨_, ys.length, rfl, .inl ⟨vs, h1.seq, r1.length⟩, k.fz wm rfl⟩
  · rename_i ys
    cases hg
    obtain ⟨v, us, rfl, ⟨a, vs, rfl, h1, r1⟩, h2⟩ := hx
    cases (show us = [] from h2)
    exact ⟨_, ys.length, rfl, .inr ⟨vs, h1.1, r1.length⟩, k.fz wm rfl⟩
  · cases hg
/-- one argument -/
theorem VzL.one {d : D} {xs : List V} (h : VzL W K H [d] xs) : ∃ v, xs = [v] ∧ Vz W K H d v := by
  obtain ⟨v, us, rfl, h1, h2⟩ := h
  cases (show us = [] from h2)
  exact ⟨v, rfl, h1⟩
theorem VzL.two {d d' : D} {xs : List V} (h : VzL W K H [d, d'] xs) : ∃ v v', xs = [v, v'] ∧ Vz W K H d v ∧ Vz W K H d' v' := by
  obtain ⟨v, us, rfl, h1, h2⟩ := h
  obtain ⟨v', rfl, h3⟩ := VzL.one h2
  exact ⟨v, v', rfl, h1, h3⟩
@[simp] def gAbs : List D → Option RV
  | [.int i] => some (.fz (.int (if i < 0 then -i else i)))
  | _ => none
theorem c_abs : Ca X (.builtin "abs") gAbs := by
  refine ⟨_, call_abs, fun W H xs ds r Q wm hx hg k => ?_⟩
  unfold gAbs at hg
  split at hg
  · cases hg
    obtain ⟨v, rfl, h⟩ := hx.one
    cases h
    exact ⟨_, rfl, k.fz wm rfl⟩
  · cases hg
@[simp] def gMax2 : List D → Option RV
  | [.int i, .int j] => some (.fz (.int (if j > i then j else i)))
  | _ => none
theorem c_max2 (hc : X.calm = true) : Ca X (.builtin "max") gMax2 := by
  refine ⟨_, call_max2 hc, fun W H xs ds r Q wm hx hg k => ?_⟩
  unfold gMax2 at hg
  split at hg
  · cases hg
    obtain ⟨v, v', rfl, h, h'⟩ := hx.two
    cases h
    cases h'
    exact ⟨_, _, rfl, k.fz wm rfl⟩
  · cases hg
@[simp] def gMin2 : List D → Option RV
  | [.int i, .int j] => some (.fz (.int (if j < i then j else i)))
  | _ => none
theorem c_min2 (hc : X.calm = true) : Ca X (.builtin "min") gMin2 := by
  refine ⟨_, call_min2 hc, fun W H xs ds r Q wm hx hg k => ?_⟩
  unfold gMin2 at hg
  split at hg
  · cases hg
    obtain ⟨v, v', rfl, h, h'⟩ := hx.two
    cases h
    cases h'
    exact ⟨_, _, rfl, k.fz wm rfl⟩
  · cases hg
@[simp] def gInt : List D → Option RV
  | [.int i] => some (.fz (.int i))
  | [.bl b] => some (.fz (.int (if b then 1 else 0)))
  | _ => none
theorem c_int : Ca X (.type "int") gInt := by
  refine ⟨_, call_int1, fun W H xs ds r Q wm hx hg k => ?_⟩
  unfold gInt at hg
  split at hg
  · cases hg
    obtain ⟨v, rfl, h⟩ := hx.one
    cases h
    exact .inl ⟨_, rfl, k.fz wm rfl⟩
  · cases hg
    obtain ⟨v, rfl, h⟩ := hx.one
    cases h
    exact .inr ⟨_, rfl, k.fz wm rfl⟩
  · cases hg
@[simp] def gList : List D → Option RV
  | [.lst xs] => some (.fr xs)
  | [.ro xs] => some (.fr xs)
  | [.tup xs] => some (.fr xs)
  | _ => none
theorem c_list : Ca X (.type "list") gList := by
  refine ⟨_, call_list_of, fun W H xs ds r Q wm hx hg k => ?_⟩
  unfold gList at hg
  split at hg
  · cases hg
    obtain ⟨v, rfl, a, vs, rfl, h1, r1⟩ := hx.one
    exact ⟨a, vs, rfl, .inl (.of h1), k.fr wm r1⟩
  · cases hg
    obtain ⟨v, rfl, a, vs, rfl, h1, r1⟩ := hx.one
    exact ⟨a, vs, rfl, .inl h1.seq, k.fr wm r1⟩
  · cases hg
    obtain ⟨v, rfl, a, vs, rfl, h1, r1⟩ := hx.one
    exact ⟨a, vs, rfl, .inr h1.1, k.fr wm r1⟩
  · cases hg
@[simp] def gTuple : List D → Option RV
  | [.lst xs] => some (.fz (.tup xs))
  | [.ro xs] => some (.fz (.tup xs))
  | [.tup xs] => some (.fz (.tup xs))
  | _ => none
theorem c_tuple : Ca X (.type "tuple") gTuple := by
  refine ⟨_, call_tupN, fun W H xs ds r Q wm hx hg k => ?_⟩
  unfold gTuple at hg
  split at hg
  · cases hg
    obtain ⟨v, rfl, a, vs, rfl, h1, r1⟩ := hx.one
    exact ⟨a, vs, rfl, .inl ⟨.of h1, k.tup wm r1⟩⟩
  · cases hg
    obtain ⟨v, rfl, a, vs, rfl, h1, r1⟩ := hx.one
    exact ⟨a, vs, rfl, .inl ⟨h1.seq, k.tup wm r1⟩⟩
  · cases hg
    obtain ⟨v, rfl, a, vs, rfl, h1, r1⟩ := hx.one
    exact ⟨a, vs, rfl, .inr ⟨h1.1, k.fz wm ⟨a, vs, rfl, h1, r1⟩⟩⟩
  · cases hg
@[simp] def bls? : List D → Option (List Bool)
  | [] => some []
  | d :: r => match d with
    | .bl b => (bls? r).map (b :: ·)
    | _ => none
@[simp] def ints? : List D → Option (List Int)
  | [] => some []
  | d :: r => match d with
    | .int b => (ints? r).map (b :: ·)
    | _ => none
@[simp] def strs? : List D → Option (List Str)
  | [] => some []
  | d :: r => match d with
    | .str b => (strs? r).map (b :: ·)
    | _ => none
theorem bls_ok : ∀ {ds : List D} {vs : List V} {bs : List Bool}, RpL W K H ds vs → bls? ds = some bs → vs = bs.map V.bl
  | [], vs, bs, h, e => by cases e; exact h
  | d :: r, _, bs, ⟨v, us, e1, h1, h2⟩, e => by
    cases d with
    | bl b =>
      obtain ⟨cs, e2, rfl⟩ := Option.map_eq_some_iff.mp (show (bls? r).map (b :: ·) = some bs from e)
      cases (show v = .bl b from h1)
      rw [e1, bls_ok h2 e2]
      rfl
    | _ => cases (show (none : Option (List Bool)) = some bs from e)
theorem ints_ok : ∀ {ds : List D} {vs : List V} {bs : List Int}, RpL W K H ds vs → ints? ds = some bs → vs = bs.map V.int
  | [], vs, bs, h, e => by cases e; exact h
  | d :: r, _, bs, ⟨v, us, e1, h1, h2⟩, e => by
    cases d with
    | int b =>
      obtain ⟨cs, e2, rfl⟩ := Option.map_eq_some_iff.mp (show (ints? r).map (b :: ·) = some bs from e)
      cases (show v = .int b from h1)
      rw [e1, ints_ok h2 e2]
      rfl
    | _ => cases (show (none : Option (List Int)) = some bs from e)
@[simp] def gAll : List D → Option RV
  | [.lst xs] => (bls? xs).map fun bs => .fz (.bl (bs.all id))
  | _ => none
@[simp] def gAny : List D → Option RV
  | [.lst xs] => (bls? xs).map fun bs => .fz (.bl (bs.any id))
  | _ => none
@[simp] def gSum : List D → Option RV
  | [.lst xs] => (ints? xs).map fun bs => .fz (.int bs.sum)
  | _ => none
theorem c_all (hc : X.calm = true) : Ca X (.builtin "all") gAll := by
  refine ⟨_, cr_all hc, fun W H xs ds r Q wm hx hg k => ?_⟩
  unfold gAll at hg
  split at hg
  · obtain ⟨bs, e, rfl⟩ := Option.map_eq_some_iff.mp hg
    obtain ⟨v, rfl, a, vs, rfl, h1, r1⟩ := hx.one
    exact ⟨a, bs, rfl, .of (by rw [h1, bls_ok r1 e]), k.fz wm rfl⟩
  · cases hg
theorem c_sum (hc : X.calm = true) : Ca X (.builtin "sum") gSum := by
  refine ⟨_, cr_sum hc, fun W H xs ds r Q wm hx hg k => ?_⟩
  unfold gSum at hg
  split at hg
  · obtain ⟨bs, e, rfl⟩ := Option.map_eq_some_iff.mp hg
    obtain ⟨v, rfl, a, vs, rfl, h1, r1⟩ := hx.one
    exact ⟨a, bs, rfl, .of (by rw [h1, ints_ok r1 e]), k.fz wm rfl⟩
  · cases hg
@[simp] def gDivmod : List D → Option RV
  | [.int i, .int j] => if 0 < j ∧ j < 1073741824 then some (.fz (.tup [.int (i / j), .int (i % j)])) else none
  | _ => none
theorem c_divmod : Ca X (.builtin "divmod") gDivmod := by
  refine ⟨_, call_divN, fun W H xs ds r Q wm hx hg k => ?_⟩
  unfold gDivmod at hg
  split at hg
  · split at hg
    · rename_i hz
      cases hg
      obtain ⟨v, v', rfl, h, h'⟩ := hx.two
      cases h
      cases h'
      exact ⟨_, _, rfl, hz, k.tup wm ⟨_, _, rfl, rfl, _, _, rfl, rfl, rfl⟩⟩
    · cases hg
  · cases hg

/-! ### isinstance -/
/-- a datum's type -/
inductive Tg where
  | non | bool | int | str | tup | lst | dic
def Tg.s : Tg → String
  | .non => "NoneType"
  | .bool => "bool"
  | .int => "int"
  | .str => "str"
  | .tup => "tuple"
  | .lst => "list"
  | .dic => "dict"
@[simp] def D.tg : D → Tg
  | .non => .non
  | .bl _ => .bool
  | .int _ => .int
  | .str _ => .str
  | .tup _ => .tup
  | .lst _ => .lst
  | .ro _ => .lst
  | .dic _ _ => .dic
abbrev D.ty (d : D) : String := d.tg.s
theorem tyX {d : D} {v : V} (h : Vz W K H d v) : TyX K H v (.type d.ty) := by
  cases d with
  | non => cases h; exact .base .non
  | bl b => cases (show v = .bl b from h); exact .base (.bl b)
  | int b => cases (show v = .int b from h); exact .base (.int b)
  | str b => cases (show v = .str b from h); exact .base (.str b)
  | tup xs =>
    obtain ⟨a, vs, rfl, ⟨h1, _⟩, _⟩ := h
    rcases h1 with (h1 | ⟨o, h1⟩) | ⟨o, its, n, h1, h2, _⟩
    · exact .base (.tup h1)
    · exact .fTuple h1
    · exact .kTuple h1 h2
  | lst xs => obtain ⟨a, vs, rfl, h1, _⟩ := h; exact .base (.lst h1)
  | ro xs =>
    obtain ⟨a, vs, rfl, h1, _⟩ := h
    rcases h1 with ⟨o, h1⟩ | (h1 | ⟨o, h1⟩) | ⟨o, its, n, h1, h2, _⟩
    · exact .base (.frz h1)
    · cases h1
    · cases h1
    · exact .kList h1 h2
  | dic ks xs => obtain ⟨a, vs, rfl, h1, _⟩ := h; exact .base (.dK h1)
end
/-- the built-in classes that are asked -/
inductive BT where
  | int | bool | str | tuple | list | dict
def BT.s : BT → String
  | .int => "int"
  | .bool => "bool"
  | .str => "str"
  | .tuple => "tuple"
  | .list => "list"
  | .dict => "dict"
@[simp] def isT : BT → Tg → Bool
  | .int, .int => true
  | .int, .bool => true
  | .bool, .bool => true
  | .str, .str => true
  | .tuple, .tup => true
  | .list, .lst => true
  | .dict, .dic => true
  | _, _ => false
@[simp] def isi (T : BT) (d : D) : Bool := isT T d.tg
theorem kit_isT : ∀ (T : BT) (t : Tg), kitB t.s T.s = some (isT T t) := by
  intro T t
  cases T <;> cases t <;> decide +kernel
theorem kit_isi (T : BT) (d : D) : kitB d.ty T.s = some (isi T d) := kit_isT T d.tg
section
variable {X : Cx} {fa : FP} {a : Expr} {p p2 p3 pos : Pos}
/-- isinstance(a, T): ans by the datum's type -/
@[simp] def pIsi (T : BT) (fa : FP) : FP := fun e => (fa e).map fun r => .fz (.bl (isi T r.view))
theorem pp_isi {x : Str} (T : BT) (hm : X.mg "isinstance" = none) (hm2 : X.mg x = none) (ha : PP X a fa) (hg : Gl X "isinstance" := by rfl) (hg2 : Gl X x := by rfl) (hv : bootBuiltins "isinstance" = some (.builtin "isinstance") := by decide +kernel) (hv2 : bootBuiltins x = some (.type T.s) := by decide +kernel)
    (hn : x ≠ "__name__" := by decide) (hdb : (x == ("__debug__" : Str)) = false := by decide) (s1 : starEach [a, .Name x p2] X.env = (false, eval a X.env) :: starEach [.Name x p2] X.env := by rfl) (s2 : starEach [.Name x p2] X.env = (false, eval (.Name x p2) X.env) :: starEach [] X.env := by rfl)
    (hpl : (backTo pos (starEach [.Name x p2] X.env)).any (·.1) = false := by rfl) : PP X (.Call (.Name "isinstance" p) [a, .Name x p2] [] pos) (pIsi T fa) := by
  obtain ⟨t, pa, ka⟩ := ha.run
  refine PP.of ⟨_, pe_callB call_isi hg hm hv (pa_cons pa (pa_cons (pe_bltn (v := .ty T.s) hg2 hm2 hv2 rfl hn hdb) pa_nil s2) s1) (by decide) (by decide) s1 hpl, fun W H σ e Q r sr hf k => ?_⟩
  obtain ⟨r1, e1, hf⟩ := Option.map_eq_some_iff.mp hf
  subst hf
  exact ka W H σ e _ r1 sr e1 fun v W1 H1 g1 k1 => ⟨v, .ty T.s, _, .type T.s, _, rfl, .ty T.s, tyX k1.vz, kit_ty (kit_isi T _), k _ W1 H1 g1 rfl⟩
@[simp] def pIsi2 (T U : BT) (fa : FP) : FP := fun e => (fa e).map fun r => .fz (.bl (isi T r.view || isi U r.view))
end
end DL

set_option maxHeartbeats 2000000
namespace DL
open PySem PySem.Spec PyProof.Rows L2

/-! ## what is walked -/
/-- what a target is given: a tuple that is taken apart at once may be any tuple -/
def Rq (tg : Expr) (W : List Addr) (K : PySem.W.Frag) (H : Hp) (d : D) (v : V) : Prop := match tg with
  | .Tuple _ _ _ => Rp W K H d v ∨ ∃ xs a vs, d = .tup xs ∧ v = .ref a ∧ SqT K H a vs ∧ RpL W K H xs vs
  | _ => Rp W K H d v
theorem Rq.of {tg : Expr} {W : List Addr} {K : PySem.W.Frag} {H : Hp} {d : D} {v : V} (h : Rp W K H d v) : Rq tg W K H d v := by
  unfold Rq
  split
  · exact .inl h
  · exact h
def ItAt (tg : Expr) (W : List Addr) (K : PySem.W.Frag) (H : Hp) (J : It) (ds : List D) : Prop :=
  (∀ (i : Nat) (d : D), ds[i]? = some d → J.go i H ∧ ∀ x H', J.yld i H x H' → (∀ a o, H a = some o → H' a = some o) ∧ Rq tg W K H' d x) ∧ J.stop ds.length H
abbrev FI := En → Option (List D × Bool)
def tI (tg : Expr) (K : PySem.W.Frag) (f : FI) : TI := fun σ H R => ∃ (W : List Addr) (e : En) (ds : List D) (b : Bool), SR W K H σ e ∧ f e = some (ds, b) ∧
  ∀ J W' H', Grow K W H W' H' → (∀ W2 H2, (Grow K W' H' W2 H2 ∨ (b = true ∧ Ex W' H' W2 H2 ∧ WM W2 H2)) → ItAt tg W2 K H2 J ds) → R J H'
structure IP (X : Cx) (tg iter : Expr) (f : FI) : Prop where
  pi : PI X tg iter (tI tg X.K f)
section
variable {X : Cx} {tg : Expr} {W W' : List Addr} {K : PySem.W.Frag} {H H' : Hp}
theorem itAt_list {a : Addr} {vs : List V} {ds : List D} (h : SqL K H a vs) (r : RpL W K H ds vs) : ItAt tg W K H (Itl K a) ds := by
  refine ⟨fun i d e => ?_, ⟨vs, h, Nat.le_of_eq r.length.symm⟩⟩
  obtain ⟨v, e2, q⟩ := r.get e
  refine ⟨⟨vs, v, h, e2⟩, fun x H' y => ?_⟩
  obtain ⟨rfl, y⟩ := y
  have z := y vs h
  rw [e2] at z
  cases z
  exact ⟨fun _ _ h => h, .of q⟩
theorem itAt_tup {a : Addr} {vs : List V} {ds : List D} (h : SqT K H a vs) (r : RpL W K H ds vs) : ItAt tg W K H (Itt K a) ds := by
  refine ⟨fun i d e => ?_, ⟨vs, h, Nat.le_of_eq r.length.symm⟩⟩
  obtain ⟨v, e2, q⟩ := r.get e
  refine ⟨⟨vs, v, h, e2⟩, fun x H' y => ?_⟩
  obtain ⟨rfl, y⟩ := y
  have z := y vs h
  rw [e2] at z
  cases z
  exact ⟨fun _ _ h => h, .of q⟩
def signs (z : Str) : List D := z.cps.toList.map fun c => .str ⟨#[c]⟩
theorem itAt_str (z : Str) : ItAt tg W K H (Its z) (signs z) := by
  have hl : (signs z).length = z.cps.size := by unfold signs; rw [List.length_map, Array.length_toList]
  refine ⟨fun i d e => ?_, by show z.cps.size ≤ _; rw [hl]; exact Nat.le_refl _⟩
  have hi : i < z.cps.size := by rw [← hl]; exact (List.getElem?_eq_some_iff.mp e).1
  refine ⟨hi, fun x H' y => ?_⟩
  obtain ⟨rfl, c, hc, rfl⟩ := y
  refine ⟨fun _ _ h => h, .of ?_⟩
  unfold signs at e
  rw [List.getElem?_map, Array.getElem?_toList, hc] at e
  cases e
  rfl
def rangeD (lo : Int) (n : Nat) : List D := (List.range n).map fun (i : Nat) => .int (lo + i)
theorem itAt_range (lo : Int) (n : Nat) : ItAt tg W K H (Itr lo n) (rangeD lo n) := by
  have hl : (rangeD lo n).length = n := by unfold rangeD; rw [List.length_map, List.length_range]
  refine ⟨fun i d e => ?_, by show n ≤ _; rw [hl]; exact Nat.le_refl _⟩
  have hi : i < n := by rw [← hl]; exact (List.getElem?_eq_some_iff.mp e).1
  refine ⟨hi, fun x H' y => ?_⟩
  obtain ⟨rfl, rfl⟩ := y
  refine ⟨fun _ _ h => h, .of ?_⟩
  unfold rangeD at e
  rw [List.getElem?_map, List.getElem?_range hi] at e
  cases e
  rfl
@[simp] def iSeqR : RV → Option (List D × Bool)
  | .fz (.lst xs) => some (xs, true)
  | .fz (.tup xs) => some (xs, true)
  | .fz (.ro xs) => some (xs, true)
  | .fz (.str z) => some (signs z, true)
  | .fr xs => some (xs, true)
  | .ow xs => some (xs, false)
  | _ => none
@[simp] def iSeq (fa : FP) : FI := fun e => (fa e).bind iSeqR
theorem ip_seq {tg a : Expr} {fa : FP} (ha : PP X a fa) : IP X tg a (iSeq fa) := by
  refine ⟨⟨fun pins s σ H R I ⟨W, e, ds, b, sr, hf, k⟩ => ?_⟩⟩
  obtain ⟨r, e1, hy⟩ := Option.bind_eq_some_iff.mp hf
  unfold iSeqR at hy
  split at hy
  · cases hy
    refine (pi_list ha.pe).run pins s σ H R I ⟨W, e, _, sr, e1, fun v W1 H1 g1 k1 => ?_⟩
    obtain ⟨a, vs, rfl, h1, r1⟩ := k1
    refine ⟨a, rfl, ⟨vs, .of h1.1⟩, k _ W1 H1 g1 fun W2 H2 h2 => ?_⟩
    rcases h2 with g2 | ⟨_, x2, _⟩
    · exact itAt_list (.of (g2.keep _ _ h1.1 rfl)) (RpL.mono (g2.ex g1.wm) _ r1)
    · exact itAt_list (.of (x2.lsF h1).1) (RpL.mono x2 _ r1)
  · cases hy
    refine (pi_tup ha.pe).run pins s σ H R I ⟨W, e, _, sr, e1, fun v W1 H1 g1 k1 => ?_⟩
    obtain ⟨a, vs, rfl, h1, r1⟩ := k1
    refine ⟨a, rfl, ⟨vs, h1.1⟩, k _ W1 H1 g1 fun W2 H2 h2 => ?_⟩
    rcases h2 with g2 | ⟨_, x2, _⟩
    · exact itAt_tup ((g2.ex g1.wm).sqT h1.1) (RpL.mono (g2.ex g1.wm) _ r1)
    · exact itAt_tup (x2.sqT h1.1) (RpL.mono x2 _ r1)
  · cases hy
    refine (pi_list ha.pe).run pins s σ H R I ⟨W, e, _, sr, e1, fun v W1 H1 g1 k1 => ?_⟩
    obtain ⟨a, vs, rfl, h1, r1⟩ := k1
    refine ⟨a, rfl, ⟨vs, h1.seq⟩, k _ W1 H1 g1 fun W2 H2 h2 => ?_⟩
    rcases h2 with g2 | ⟨_, x2, _⟩
    · exact itAt_list ((g2.ex g1.wm).roF h1).seq (RpL.mono (g2.ex g1.wm) _ r1)
    · exact itAt_list (x2.roF h1).seq (RpL.mono x2 _ r1)
  · rename_i z
    cases hy
    refine (pi_str ha.pe).run pins s σ H R I ⟨W, e, _, sr, e1, fun v W1 H1 g1 k1 => ?_⟩
    cases (show v = .str z from k1)
    exact ⟨z, rfl, k _ W1 H1 g1 fun W2 H2 h2 => itAt_str z⟩
  · cases hy
    refine (pi_list ha.pe).run pins s σ H R I ⟨W, e, _, sr, e1, fun v W1 H1 g1 k1 => ?_⟩
    obtain ⟨a, vs, rfl, h0, h1, h2, r1⟩ := k1
    have g0 := g1.base sr.wm
    have r0 := RpL.weak g1.sub g1.wm r1
    have na : a ∉ W := fun z => isSome_of_mut (sr.wm a z) h0
    refine ⟨a, rfl, ⟨vs, .of h2⟩, k _ W H1 g0 fun W2 H2 h3 => ?_⟩
    rcases h3 with g2 | ⟨_, x2, _⟩
    · exact itAt_list (.of (g2.keep _ _ h2 rfl)) (RpL.mono (g2.ex g0.wm) _ r0)
    · exact itAt_list (.of (x2.keep _ _ h2 na rfl).1) (RpL.mono x2 _ r0)
  · cases hy
    refine (pi_list ha.pe).run pins s σ H R I ⟨W, e, _, sr, e1, fun v W1 H1 g1 k1 => ?_⟩
    obtain ⟨a, vs, rfl, h1, h2, r1⟩ := k1
    refine ⟨a, rfl, ⟨vs, .of h2⟩, k _ W1 H1 g1 fun W2 H2 h3 => ?_⟩
    rcases h3 with g2 | ⟨z, _⟩
    · exact itAt_list (.of (g2.keep _ _ h2 rfl)) (RpL.mono (g2.ex g1.wm) _ r1)
    · cases z
  · cases hy
def i62 (j : Int) : Bool := decide (-(2 ^ 62) ≤ j) && decide (j < 2 ^ 62)
theorem i62_ok {j : Int} (h : i62 j = true) : -(2 ^ 62) ≤ j ∧ j < 2 ^ 62 := by
  obtain ⟨h1, h2⟩ := Bool.and_eq_true_iff.mp h
  exact ⟨of_decide_eq_true h1, of_decide_eq_true h2⟩
@[simp] def rgR1 : List RV → Option (List D × Bool)
  | [r] => r.i?.bind fun j => if i62 j = true then some (rangeD 0 j.toNat, true) else none
  | _ => none
@[simp] def rgR2 : List RV → Option (List D × Bool)
  | [r, r'] => r.i?.bind fun i => r'.i?.bind fun j => if i62 i = true ∧ i62 j = true then some (rangeD i (j - i).toNat, true) else none
  | _ => none
@[simp] def iRg1 (fs : FA) : FI := fun e => (fs e).bind rgR1
@[simp] def iRg2 (fs : FA) : FI := fun e => (fs e).bind rgR2
theorem ip_range1 {tg a : Expr} {fs : FA} {p pos : Pos} (hm : X.mg "range" = none) (ha : PPs X [a] fs) (hg : Gl X "range" := by rfl) (hs : starEach [a] X.env = [(false, eval a X.env)] := by rfl) : IP X tg (.Call (.Name "range" p) [a] [] pos) (iRg1 fs) := by
  refine ⟨⟨fun pins s σ H R I ⟨W, e, ds, b, sr, hf, k⟩ => ?_⟩⟩
  obtain ⟨rs, e1, hy⟩ := Option.bind_eq_some_iff.mp hf
  unfold rgR1 at hy
  split at hy
  · obtain ⟨j, e2, hz⟩ := Option.bind_eq_some_iff.mp hy
    have e3 := RV.i?_ok e2
    subst e3
    split at hz
    · rename_i h62
      cases hz
      refine (pi_range1 hg hm ha.pa hs).run pins s σ H R I ⟨W, e, _, sr, e1, fun vs W1 H1 g1 k1 => ?_⟩
      obtain ⟨v, us, rfl, h1, h2⟩ := k1
      cases (show us = [] from h2)
      cases (show v = .int j from h1)
      exact ⟨j, rfl, (i62_ok h62).1, (i62_ok h62).2, k _ W1 H1 g1 fun _ _ _ => itAt_range 0 _⟩
    · cases hz
  · cases hy
theorem ip_range2 {tg a b : Expr} {fs : FA} {p pos : Pos} (hm : X.mg "range" = none) (ha : PPs X [a, b] fs) (hg : Gl X "range" := by rfl) (hs : starEach [a, b] X.env = [(false, eval a X.env), (false, eval b X.env)] := by rfl) (hs2 : starEach [b] X.env = [(false, eval b X.env)] := by rfl) : IP X tg (.Call (.Name "range" p) [a, b] [] pos) (iRg2 fs) := by
  refine ⟨⟨fun pins s σ H R I ⟨W, e, ds, bb, sr, hf, k⟩ => ?_⟩⟩
  obtain ⟨rs, e1, hy⟩ := Option.bind_eq_some_iff.mp hf
  unfold rgR2 at hy
  split at hy
  · obtain ⟨i, e2, hz⟩ := Option.bind_eq_some_iff.mp hy
    obtain ⟨j, e4, hw⟩ := Option.bind_eq_some_iff.mp hz
    have e3 := RV.i?_ok e2
    have e5 := RV.i?_ok e4
    subst e3 e5
    split at hw
    · rename_i h62
      cases hw
      refine (pi_range2 hg hm ha.pa hs hs2).run pins s σ H R I ⟨W, e, _, sr, e1, fun vs W1 H1 g1 k1 => ?_⟩
      obtain ⟨v, us, rfl, h1, v', us', rfl, h1', h2⟩ := k1
      cases (show us' = [] from h2)
      cases (show v = .int i from h1)
      cases (show v' = .int j from h1')
      exact ⟨i, j, rfl, ⟨(i62_ok h62.1).1, (i62_ok h62.1).2, (i62_ok h62.2).1, (i62_ok h62.2).2⟩, k _ W1 H1 g1 fun _ _ _ => itAt_range i _⟩
    · cases hw
  · cases hy
end

/-! ## targets -/
abbrev FG := D → En → Option En
def tG (tg : Expr) (K : PySem.W.Frag) (vs : List Nat) (f : FG) : TG := fun v σ H Q => ∃ (W : List Addr) (e : En) (d : D) (e' : En), SR W K H σ e ∧ Rq tg W K H d v ∧ f d e = some e' ∧
  ∀ σ', SR W K H σ' e' → σ'.length = σ.length → (∀ j, j ∉ vs → σ'[j]? = σ[j]?) → (∀ a, Ow σ' e' a → Ow σ e a) → Q σ' H
structure GP (X : Cx) (tg : Expr) (vs : List Nat) (f : FG) : Prop where
  pg : PG X tg (tG tg X.K vs f)
def tGs (K : PySem.W.Frag) (vs : List Nat) (f : List D → En → Option En) : TGs := fun us σ H Q => ∃ (W : List Addr) (e : En) (ds : List D) (e' : En), SR W K H σ e ∧ RpL W K H ds us ∧ f ds e = some e' ∧
  ∀ σ', SR W K H σ' e' → σ'.length = σ.length → (∀ j, j ∉ vs → σ'[j]? = σ[j]?) → (∀ a, Ow σ' e' a → Ow σ e a) → Q σ' H
structure GPs (X : Cx) (ts : List Expr) (vs : List Nat) (f : List D → En → Option En) : Prop where
  pgs : PGs X ts (tGs X.K vs f)
section
variable {X : Cx} {W W' : List Addr} {K : PySem.W.Frag} {H H' : Hp} {σ : St} {e : En}
/-- a slot is given frozen data -/
theorem SR.setD (r : SR W K H σ e) {i : Nat} (hi : i < σ.length) {d : D} {v : V} (h : Rp W K H d v) : SR W K H (σ.set i (some v)) (e.set i (some (.d d))) where
  tb := r.tb
  wm := r.wm
  len := by rw [List.length_set, List.length_set, r.len]
  sl := fun j s q => by
    by_cases z : i = j
    · subst z
      rw [List.getElem?_set_self (by rw [r.len]; exact hi)] at q
      cases q
      exact ⟨v, List.getElem?_set_self hi, h⟩
    · rw [List.getElem?_set_ne z] at q
      obtain ⟨u, h1, h2⟩ := r.sl j s q
      exact ⟨u, by rw [List.getElem?_set_ne z]; exact h1, h2⟩
  one := fun j l s t a q1 q2 o1 o2 h1 h2 => by
    by_cases z : i = j
    · subst z
      rw [List.getElem?_set_self (by rw [r.len]; exact hi)] at q1
      cases q1
      cases o1
    · by_cases z2 : i = l
      · subst z2
        rw [List.getElem?_set_self (by rw [r.len]; exact hi)] at q2
        cases q2
        cases o2
      · rw [List.getElem?_set_ne z] at q1 h1
        rw [List.getElem?_set_ne z2] at q2 h2
        exact r.one j l s t a q1 q2 o1 o2 h1 h2
theorem Ow.setD {i : Nat} {d : D} {v : V} {a : Addr} (hi : i < e.length) (o : Ow (σ.set i (some v)) (e.set i (some (.d d))) a) : Ow σ e a := by
  obtain ⟨j, s, h1, h2, h3⟩ := o
  by_cases z : i = j
  · subst z
    rw [List.getElem?_set_self hi] at h1
    cases h1
    cases h2
  · rw [List.getElem?_set_ne z] at h1 h3
    exact ⟨j, s, h1, h2, h3⟩
@[simp] def gNm (i : Nat) : FG := fun d e => if i < e.length then some (e.set i (some (.d d))) else none
theorem gp_name (i : Nat) {x : Str} {pos : Pos} {vs : List Nat} (hN : X.N.Nodup) (hi : X.N[i]? = some x := by rfl) (hx : Loc X.env.scope x := by first | exact Or.inl rfl | exact Or.inr rfl) (hv : i ∈ vs := by decide)
    (hf : X.fn x = true ∨ X.env.scope.names.lookup x = some .local := by first | exact .inl rfl | exact .inr rfl | assumption) : GP X (.Name x pos) vs (gNm i) := by
  refine ⟨⟨fun pins s σ H v u Q I r ⟨W, e, d, e', sr, rp, hfd, k⟩ => ?_⟩⟩
  unfold gNm at hfd
  split at hfd
  · rename_i hl
    cases hfd
    refine (pg_name hN hi hx hf).run pins s σ H v u Q I r (k _ (sr.setD (by rw [← sr.len]; exact hl) rp) (List.length_set ..) (fun j hj => List.getElem?_set_ne fun (z : i = j) => hj (by rw [← z]; exact hv)) fun a o => o.setD hl)
  · cases hfd
@[simp] def gsNil : List D → En → Option En := fun ds e => match ds with
  | [] => some e
  | _ => none
@[simp] def gsCons (f : FG) (fs : List D → En → Option En) : List D → En → Option En := fun ds e => match ds with
  | [] => none
  | d :: r => (f d e).bind fun e1 => fs r e1
theorem gps_nil {vs : List Nat} : GPs X [] vs gsNil := by
  refine ⟨⟨fun pins s σ H us vals Q I r ⟨W, e, ds, e', sr, rp, hfd, k⟩ => ?_⟩⟩
  cases ds with
  | nil =>
    cases (show us = [] from rp)
    cases hfd
    exact pgs_nil.run pins s σ H [] vals Q I r ⟨rfl, k σ sr rfl (fun _ _ => rfl) fun _ h => h⟩
  | cons d r => cases hfd
theorem gps_cons {a : Expr} {es : List Expr} {vs : List Nat} {f : FG} {fs : List D → En → Option En} (h1 : GP X a vs f) (h2 : GPs X es vs fs)
    (hs : (assignEach (a :: es) X.env).map (·.2) = assign a X.env :: (assignEach es X.env).map (·.2) := by rfl) : GPs X (a :: es) vs (gsCons f fs) := by
  refine ⟨⟨fun pins s σ H us vals Q I r ⟨W, e, ds, e', sr, rp, hfd, k⟩ => ?_⟩⟩
  cases ds with
  | nil => cases hfd
  | cons d ds =>
    obtain ⟨v, ur, rfl, p1, p2⟩ := rp
    obtain ⟨e1, he1, hfd⟩ := Option.bind_eq_some_iff.mp hfd
    refine (pgs_cons h1.pg h2.pgs hs).run pins s σ H _ vals Q I r ⟨v, ur, rfl, W, e, d, e1, sr, .of p1, he1, fun σ1 sr1 l1 a1 o1 => ?_⟩
    exact ⟨W, e1, ds, e', sr1, p2, hfd, fun σ2 sr2 l2 a2 o2 => k σ2 sr2 (l2.trans l1) (fun j hj => (a2 j hj).trans (a1 j hj)) fun a h => o1 a (o2 a h)⟩
@[simp] def gTp (n : Nat) (fs : List D → En → Option En) : FG := fun d e => match d with
  | .tup xs => if xs.length = n then fs xs e else none
  | _ => none
theorem gp_tup {es : List Expr} {k : Nat} {pos : Pos} {vs : List Nat} {fs : List D → En → Option En} {n : Nat} (hc : X.calm = true) (h : GPs X es vs fs) (hn : (assignEach es X.env).length = n := by rfl) (hst : (assignEach es X.env).findIdx? (·.1) = none := by rfl) :
    GP X (.Tuple es k pos) vs (gTp n fs) := by
  refine ⟨⟨fun pins s σ H v u Q I r ⟨W, e, d, e', sr, rp, hfd, kk⟩ => ?_⟩⟩
  cases d with
  | tup xs =>
    have hfd' : (if xs.length = n then fs xs e else none) = some e' := hfd
    split at hfd'
    · rename_i hl
      obtain ⟨a, us, e1, q1, q2⟩ : ∃ a us, v = .ref a ∧ SqT X.K H a us ∧ RpL W X.K H xs us := by
        rcases (show Rp W X.K H (.tup xs) v ∨ ∃ ys a vs, D.tup xs = .tup ys ∧ v = .ref a ∧ SqT X.K H a vs ∧ RpL W X.K H ys vs from rp) with ⟨a, us, e1, q1, q2⟩ | ⟨ys, a, us, ey, e1, q1, q2⟩
        · exact ⟨a, us, e1, q1.1, q2⟩
        · cases ey
          exact ⟨a, us, e1, q1, q2⟩
      exact (pg_tup hc h.pgs hn hst).run pins s σ H v u Q I r ⟨a, us, e1, q1, by rw [← q2.length]; exact hl, W, e, xs, e', sr, q2, hfd', kk⟩
    · cases hfd'
  | _ => cases hfd
end

/-! ## list comprehensions -/
@[simp] def wipeE (e : En) : List Nat → En
  | [] => e
  | v :: vs => (wipeE e vs).set v none
theorem wipeE_length (e : En) : ∀ vs : List Nat, (wipeE e vs).length = e.length
  | [] => rfl
  | v :: vs => by unfold wipeE; rw [List.length_set, wipeE_length e vs]
theorem wipeE_in {e : En} {i : Nat} {s : S} : ∀ {vs : List Nat}, (wipeE e vs)[i]? = some (some s) → e[i]? = some (some s) ∧ i ∉ vs
  | [], h => ⟨h, by simp⟩
  | v :: vs, h => by
    unfold wipeE at h
    by_cases hi : v = i
    · subst hi
      by_cases hv : v < (wipeE e vs).length
      · rw [List.getElem?_set_self hv] at h; cases h
      · rw [List.getElem?_eq_none (by simpa using hv)] at h; cases h
    · rw [List.getElem?_set_ne hi] at h
      obtain ⟨h1, h2⟩ := wipeE_in h
      exact ⟨h1, by simp only [List.mem_cons, not_or]; exact ⟨fun z => hi z.symm, h2⟩⟩
theorem wipe_stay {σ : St} {i : Nat} : ∀ {vs : List Nat}, i ∉ vs → (wipe σ vs)[i]? = σ[i]?
  | [], _ => rfl
  | v :: vs, h => by
    unfold wipe
    rw [List.getElem?_set_ne fun z => h (by rw [z]; exact List.mem_cons_self), wipe_stay fun z => h (List.mem_cons_of_mem _ z)]
theorem wipe_gone {σ : St} {i : Nat} : ∀ {vs : List Nat}, i ∈ vs → i < σ.length → (wipe σ vs)[i]? = some none
  | v :: vs, h, hl => by
    unfold wipe
    by_cases z : v = i
    · subst z
      rw [List.getElem?_set_self (by rw [wipe_length]; exact hl)]
    · rw [List.getElem?_set_ne z]
      rcases List.mem_cons.mp h with q | q
      · exact absurd q.symm z
      · exact wipe_gone q hl
theorem wipe_same {σ σ' : St} {vs : List Nat} (hl : σ'.length = σ.length) (h : ∀ j, j ∉ vs → σ'[j]? = (wipe σ vs)[j]?) : wipe σ' vs = wipe σ vs := by
  apply List.ext_getElem?
  intro i
  by_cases hi : i ∈ vs
  · by_cases hn : i < σ.length
    · rw [wipe_gone hi hn, wipe_gone hi (by rw [hl]; exact hn)]
    · rw [List.getElem?_eq_none (by rw [wipe_length, hl]; omega), List.getElem?_eq_none (by rw [wipe_length]; omega)]
  · rw [wipe_stay hi]
    exact h i hi
section
variable {X : Cx} {W W' : List Addr} {K : PySem.W.Frag} {H H' : Hp} {σ : St} {e : En}
theorem SR.wipe (r : SR W K H σ e) (vs : List Nat) : SR W K H (L2.wipe σ vs) (wipeE e vs) where
  tb := r.tb
  wm := r.wm
  len := by rw [wipeE_length, wipe_length, r.len]
  sl := fun i s q => by
    obtain ⟨q1, n⟩ := wipeE_in q
    obtain ⟨v, h1, h2⟩ := r.sl i s q1
    exact ⟨v, by rw [wipe_stay n]; exact h1, h2⟩
  one := fun i j s t a q1 q2 o1 o2 h1 h2 => by
    obtain ⟨q1, n1⟩ := wipeE_in q1
    obtain ⟨q2, n2⟩ := wipeE_in q2
    rw [wipe_stay n1] at h1
    rw [wipe_stay n2] at h2
    exact r.one i j s t a q1 q2 o1 o2 h1 h2
end
/-- the comprehension's tests -/
structure TPs (X : Cx) (ifs : List Expr) (f : FT) : Prop where
  pts : PTs X ifs (tT X.K f)
@[simp] def tAll : FT := fun _ => some true
theorem tps_nil {X : Cx} : TPs X [] tAll := ⟨⟨fun pins s σ H Q I ⟨W, e, b, sr, hf, k⟩ => by cases hf; exact pts_nil.run pins s σ H Q I (k W H (.refl sr.wm))⟩⟩
theorem tps_one {X : Cx} {c : Expr} {f : FT} (h : TP X c f) : TPs X [c] f := ⟨pts_one h.pt⟩
@[simp] def lcL (bind : FG) (ft : FT) (fe : FP) (e : En) : List D → Option (List D)
  | [] => some []
  | d :: ds => (bind d e).bind fun e1 => (ft e1).bind fun b => if b = true then (fe e1).bind fun r => r.item.bind fun x => (lcL bind ft fe e ds).map fun xs => x :: xs else lcL bind ft fe e ds
@[simp] def pLc (vs : List Nat) (fi : FI) (bind : FG) (ft : FT) (fe : FP) : FP := fun e => (fi e).bind fun p => (lcL bind ft fe (wipeE e vs) p.1).bind fun xs => if xs.length ≤ SZ then some (.fr xs) else none

section
variable {K : PySem.W.Frag}
/-- between the turns: what is made (done, at D) and what is to come -/
structure LcAt (K : PySem.W.Frag) (W' : List Addr) (H1 : Hp) (D0 : Addr) (bind : FG) (ft : FT) (fe : FP) (e : En) (ds xs : List D) (i : Nat) (H : Hp) (W2 : List Addr) (dn rest : List D) (acc : List V) : Prop where
  g : Grow K W' H1 W2 H
  dm : D0 ∈ W2
  at_ : H D0 = some (.lst acc)
  rp : RpL W2 K H dn acc
  todo : lcL bind ft fe e (ds.drop i) = some rest
  all : dn ++ rest = xs
end
theorem lc_read {tg : Expr} {K : PySem.W.Frag} {W W' : List Addr} {H H1 : Hp} {σ : St} {e : En} {J : It} {ds xs : List D} {vs : List Nat} {bind : FG} {ft : FT} {fe : FP} {Q : VK} {D0 : Addr} (sr : SR W K H σ e) (g1 : Grow K W H W' H1) (hn : H1 D0 = none)
    (it : ∀ W2 H2, Grow K W' H1 W2 H2 → ItAt tg W2 K H2 J ds) (hx : lcL bind ft fe (wipeE e vs) ds = some xs) (hz : xs.length ≤ SZ) (k : KQ W K H (.fr xs) Q) :
    ∃ Wi : Nat → Nat → Hp → Prop, (∃ m, Wi 0 m (upd H1 D0 (.lst []))) ∧ ∀ i m H, Wi i m H →
      (J.stop i H ∧ Q (.ref D0) H) ∨ (J.go i H ∧ ∃ Nx : Hp → Prop, (∀ H', Nx H' → ∃ m', m' < m ∧ Wi (i + 1) m' H') ∧ ∀ x H', J.yld i H x H' → tG tg K vs bind x (wipe σ vs) H' fun σ2 H2 => wipe σ2 vs = wipe σ vs ∧ tT K ft σ2 H2 fun b H3 =>
        if b = true then tP K fe σ2 H3 fun y H4 => ∃ acc, H4 D0 = some (.lst acc) ∧ acc.length < sizeLine ∧ Nx (upd H4 D0 (.lst (acc ++ [y]))) else Nx H3) := by
  refine ⟨fun i m H => m = ds.length - i ∧ i ≤ ds.length ∧ ∃ W2 dn rest acc, LcAt K W' H1 D0 bind ft fe (wipeE e vs) ds xs i H W2 dn rest acc, ⟨ds.length, rfl, Nat.zero_le _, D0 :: W', [], xs, [], ?_⟩, ?_⟩
  · exact ⟨.lst g1.wm hn, List.mem_cons_self, upd_same, rfl, hx, rfl⟩
  · rintro i m H2 ⟨rfl, hi, W2, dn, rest, acc, L⟩
    have I2 := it W2 H2 L.g
    by_cases hlt : i < ds.length
    · refine .inr ?_
      obtain ⟨d, hd⟩ : ∃ d, ds[i]? = some d := ⟨ds[i], List.getElem?_eq_getElem hlt⟩
      obtain ⟨hgo, hy⟩ := I2.1 i d hd
      refine ⟨hgo, fun H' => ∃ W2 dn rest acc, LcAt K W' H1 D0 bind ft fe (wipeE e vs) ds xs (i + 1) H' W2 dn rest acc, fun H' q => ⟨ds.length - (i + 1), by omega, rfl, hlt, q⟩, fun x H3 y => ?_⟩
      obtain ⟨kp, rp⟩ := hy x H3 y
      have todo := L.todo
      have ed : ds.drop i = d :: ds.drop (i + 1) := by
        rw [List.drop_eq_getElem_cons hlt]
        rw [List.getElem?_eq_getElem hlt] at hd
        cases hd
        rfl
      rw [ed] at todo
      obtain ⟨e1, he1, todo⟩ := Option.bind_eq_some_iff.mp todo
      obtain ⟨b, hb, todo⟩ := Option.bind_eq_some_iff.mp todo
      have g3 : Grow K W2 H2 W2 H3 := .of L.g.wm kp
      have srw : SR W2 K H3 (wipe σ vs) (wipeE e vs) := ((g1.trans L.g).trans g3).sr (sr.wipe vs)
      refine ⟨W2, wipeE e vs, d, e1, srw, rp, he1, fun σ1 sr1 l1 a1 o1 => ⟨wipe_same (l1.trans (wipe_length σ vs)) a1, ?_⟩⟩
      refine ⟨W2, e1, b, sr1, hb, fun W4 H4 g4 => ?_⟩
      have g24 := g3.trans g4
      have at4 := g24.keep _ _ L.at_ rfl
      have rp4 := RpL.mono (g24.ex L.g.wm) _ L.rp
      have dm4 := g24.sub _ L.dm
      have g14 := L.g.trans g24
      cases b with
      | false => exact iteF ⟨W4, dn, rest, acc, g14, dm4, at4, rp4, todo, L.all⟩
      | true =>
        refine iteT ?_
        obtain ⟨r, hr, todo⟩ := Option.bind_eq_some_iff.mp todo
        obtain ⟨z, hz1, todo⟩ := Option.bind_eq_some_iff.mp todo
        obtain ⟨rest', hr2, erest⟩ := Option.map_eq_some_iff.mp todo
        refine ⟨W4, e1, r, g4.sr sr1, hr, fun yv W5 H5 g5 k5 => ?_⟩
        have g50 := g5.base g4.wm
        have at5 := g5.keep _ _ at4 rfl
        have rp5 := RpL.mono (g50.ex g4.wm) _ rp4
        have rz := k5.item g5 g4.wm hz1
        have x6 : Ex W4 H5 W4 (upd H5 D0 (.lst (acc ++ [yv]))) := ⟨g50.wm, fun a o h n _ => ⟨by rw [upd_ne fun (q : a = D0) => n (by rw [q]; exact dm4)]; exact h, n⟩⟩
        refine ⟨acc, at5, ?_, W4, dn ++ [z], rest', acc ++ [yv], ⟨?_, dm4, upd_same, RpL.mono x6 _ (rp5.append (.one rz)), hr2, by rw [List.append_assoc, ← L.all, ← erest]; rfl⟩⟩
        · have q := L.all
          rw [← erest] at q
          have q2 := congrArg List.length q
          rw [List.length_append, List.length_cons] at q2
          have q3 := L.rp.length
          rw [SZ_eq]
          omega
        · have g15 := g14.trans g50
          exact g15.put hn at5 rfl (fun _ => codeO_lst) trivial
    · have ei : i = ds.length := by omega
      subst ei
      refine .inl ⟨I2.2, ?_⟩
      have todo := L.todo
      rw [List.drop_length] at todo
      cases todo
      have ea := L.all
      rw [List.append_nil] at ea
      subst ea
      exact k _ W2 H2 (g1.trans L.g) ⟨D0, acc, rfl, g1.fresh hn, L.dm, L.at_, L.rp⟩
section
variable {X : Cx}
theorem pp_lc {elt tg iter : Expr} {ifs : List Expr} {scope : Scope} {own : List (Str × Nat)} {pos : Pos} {fi : FI} {bind : FG} {ft : FT} {fe : FP} (hc : X.calm = true) (hN : X.N.Nodup) (hi : IP X tg iter fi) (ok : BlkOk X.N X.env.scope scope own)
    (hg : ∀ (s : Shared) (H : Hp) (C : Addr) (cl : List (Str × Addr)) (fp : List Addr), GP (X.blk s H scope (compEnvC scope cl C X.env) fp) tg (own.map (·.2)) bind)
    (ht : ∀ (s : Shared) (H : Hp) (C : Addr) (cl : List (Str × Addr)) (fp : List Addr), TPs (X.blk s H scope (compEnvC scope cl C X.env) fp) ifs ft)
    (he : ∀ (s : Shared) (H : Hp) (C : Addr) (cl : List (Str × Addr)) (fp : List Addr), PP (X.blk s H scope (compEnvC scope cl C X.env) fp) elt fe)
    (hs : ∀ x, foldedSetIterable iter X.env x = pure x := by intro _; rfl) : PP X (.ListComp elt [⟨tg, iter, ifs, 0⟩] scope pos) (pLc (own.map (·.2)) fi bind ft fe) := by
  refine PP.of ⟨_, pe_lc (g := tG tg X.K (own.map (·.2)) bind) (tt := tT X.K ft) (te := tP X.K fe) hc hN hi.pi ok (fun s H C cl fp => (hg s H C cl fp).pg) (fun s H C cl fp => (ht s H C cl fp).pts) (fun s H C cl fp => (he s H C cl fp).pe) hs, fun W H σ e Q r sr hf k => ?_⟩
  obtain ⟨⟨ds, bb⟩, e1, hf⟩ := Option.bind_eq_some_iff.mp hf
  obtain ⟨xs, e2, hf⟩ := Option.bind_eq_some_iff.mp hf
  split at hf
  · rename_i hz
    cases hf
    exact ⟨W, e, ds, bb, sr, e1, fun J W' H1 g1 it D0 hn => lc_read sr g1 hn (fun W2 H2 g => it W2 H2 (.inl g)) e2 hz k⟩
  · cases hf
end
end DL

set_option maxHeartbeats 2000000
namespace DL
open PySem PySem.Spec PyProof.Rows L2

/-! ## effectful expressions, one behind another -/
@[simp] def Out.bind (o : Out) (f : D → En → Out) : Out := match o with
  | .stuck => .stuck
  | .ok s e => f s.view e
  | .ex x e => .ex x e
@[simp] def rvO (o : Option RV) (e : En) : Out := match o with
  | some (.fz x) => .ok (.d x) e
  | some (.fr xs) => .ok (.lst xs) e
  | _ => .stuck
inductive OL where
  | stuck | ok (ds : List D) (e : En) | ex (x : XD) (e : En)
@[simp] def OL.bind (o : OL) (f : List D → En → Out) : Out := match o with
  | .stuck => .stuck
  | .ok ds e => f ds e
  | .ex x e => .ex x e
@[simp] def OL.cons (d : D) (o : OL) : OL := match o with
  | .stuck => .stuck
  | .ok ds e => .ok (d :: ds) e
  | .ex x e => .ex x e
@[simp] def Out.cons (o : Out) (fs : En → OL) : OL := match o with
  | .stuck => .stuck
  | .ok s e => OL.cons s.view (fs e)
  | .ex x e => .ex x e
section
variable {W W' W1 W2 : List Addr} {K : PySem.W.Frag} {mg : Str → Option Value} {Wx : WX} {H H' H1 H2 : Hp} {σ : St} {e e' e1 : En} {Q Q0 : VK}
theorem OutK.go (x : EX W H σ e W1 H1 σ e1) : ∀ {o : Out}, OutK K mg Wx W H σ e Q o → OutK K mg Wx W1 H1 σ e1 Q o
  | .stuck, h => h
  | .ok s e', h => fun v W' H' sr y r f => h v W' H' sr (x.trans y) r fun o a q => ⟨x.dom a (f o a q).1, (f o a q).2⟩
  | .ex z e', h => fun c d W' H' sr y r => h c d W' H' sr (x.trans y) r
/-- the value frozen -/
def DK (K : PySem.W.Frag) (mg : Str → Option Value) (Wx : WX) (W : List Addr) (H : Hp) (σ : St) (e : En) (Q : VK) : Out → Prop
  | .stuck => False
  | .ok s e' => ∀ v W' H', SR W' K H' σ e' → EX W H σ e W' H' σ e' → Rp W' K H' s.view v → Q v H'
  | .ex x e' => ∀ cls d W' H', SR W' K H' σ e' → EX W H σ e W' H' σ e' → XR mg W' K H' x cls d → Wx cls d σ H'
/-- less is owned -/
theorem SR.less (r : SR W' K H' σ e) (s : ∀ a ∈ W, a ∈ W') (o : ∀ a, Ow σ e a → a ∈ W) : SR W K H' σ e where
  tb := r.tb
  wm := fun a h => r.wm a (s a h)
  len := r.len
  sl := fun i t h => by
    obtain ⟨v, h1, h2⟩ := r.sl i t h
    refine ⟨v, h1, ?_⟩
    cases t with
    | d x => exact Rp.weak s (fun a h => r.wm a (s a h)) h2 r.wm
    | lst xs =>
      obtain ⟨a, vs, rfl, q1, q2, q3⟩ := h2
      exact ⟨a, vs, rfl, o a ⟨i, _, h, rfl, h1⟩, q2, RpL.weak s r.wm q3⟩
  one := r.one
theorem mem_drop {a b : Addr} {W : List Addr} : b ∈ W.filter (fun z => decide (z ≠ a)) ↔ b ∈ W ∧ b ≠ a := by
  rw [List.mem_filter]
  simp
/-- what is new and nobody's is frozen -/
theorem freeze {xs : List D} {v : V} (wm : WM W H) (sr : SR W' K H' σ e') (y : EX W H σ e W' H' σ e') (r : RS W' K H' (.lst xs) v) (f : ∀ a, v = .ref a → H a = none ∧ ¬ Ow σ e' a) :
    ∃ W2, SR W2 K H' σ e' ∧ EX W H σ e W2 H' σ e' ∧ Rp W2 K H' (.lst xs) v := by
  obtain ⟨a, vs, rfl, q1, q2, q3⟩ := r
  obtain ⟨f1, f2⟩ := f a rfl
  have sb : ∀ b ∈ W'.filter (fun z => decide (z ≠ a)), b ∈ W' := fun b hb => (mem_drop.mp hb).1
  have sr2 : SR (W'.filter fun z => decide (z ≠ a)) K H' σ e' := sr.less sb fun b o => mem_drop.mpr ⟨sr.ow o, fun z => f2 (z ▸ o)⟩
  refine ⟨_, sr2, ⟨y.keep, fun b o q n z => y.frz b o q n (sb b z), fun b hb n => ?_, y.sub, y.dom⟩, ⟨a, vs, rfl, ⟨q2, fun z => (mem_drop.mp z).2 rfl⟩, RpL.weak sb sr.wm q3⟩⟩
  obtain ⟨h1, h2⟩ := y.tmp b hb n
  refine ⟨mem_drop.mpr ⟨h1, fun z => ?_⟩, h2⟩
  subst z
  exact isSome_of_mut (wm b hb) f1
theorem DK.out (wm : WM W H) : ∀ {o : Out}, DK K mg Wx W H σ e Q o → OutK K mg Wx W H σ e Q o
  | .stuck, h => h
  | .ex z e', h => h
  | .ok (.d x) e', h => fun v W' H' sr y r _ => h v W' H' sr y r
  | .ok (.lst xs) e', h => fun v W' H' sr y r f => by
    obtain ⟨W2, s2, y2, r2⟩ := freeze wm sr y r (f rfl)
    exact h _ _ H' s2 y2 r2
theorem DK.bind {o : Out} {f : D → En → Out} (wm : WM W H) (h : OutK K mg Wx W H σ e Q (o.bind f))
    (k : ∀ d v e1 W1 H1, SR W1 K H1 σ e1 → EX W H σ e W1 H1 σ e1 → Rp W1 K H1 d v → OutK K mg Wx W1 H1 σ e1 Q (f d e1) → Q0 v H1) : OutK K mg Wx W H σ e Q0 o :=
  DK.out wm (match o with
    | .stuck => h
    | .ex z e' => h
    | .ok s e1 => fun v W1 H1 sr1 x r => k s.view v e1 W1 H1 sr1 x r (OutK.go (o := f s.view e1) x h))
theorem OutK.rv (sr : SR W K H σ e) : ∀ {r : RV}, OutK K mg Wx W H σ e Q (rvO (some r) e) → KQ W K H r Q
  | .fz x, h => fun v W' H' g q => h v W' H' (g.sr sr) (g.fx sr) q fun z => nomatch z
  | .fr xs, h => fun v W' H' g q => by
    obtain ⟨a, vs, ev, h0, h1, h2, h3⟩ := q
    exact h v W' H' (g.sr sr) (g.fx sr) ⟨a, vs, ev, h1, h2, h3⟩ fun _ b eb => by
      rw [ev] at eb
      cases eb
      exact ⟨h0, fun o => sr.thr (sr.ow o) h0⟩
  | .ow xs, h => h.elim
theorem OutK.rvo (sr : SR W K H σ e) {o : Option RV} (h : OutK K mg Wx W H σ e Q (rvO o e)) : ∃ r, o = some r ∧ KQ W K H r Q := by
  cases o with
  | none => exact h.elim
  | some r => exact ⟨r, rfl, OutK.rv sr h⟩
/-- several values -/
def OLK (K : PySem.W.Frag) (mg : Str → Option Value) (Wx : WX) (W : List Addr) (H : Hp) (σ : St) (e : En) (Q : List V → Hp → Prop) : OL → Prop
  | .stuck => False
  | .ok ds e' => ∀ vs W' H', SR W' K H' σ e' → EX W H σ e W' H' σ e' → RpL W' K H' ds vs → Q vs H'
  | .ex x e' => ∀ cls d W' H', SR W' K H' σ e' → EX W H σ e W' H' σ e' → XR mg W' K H' x cls d → Wx cls d σ H'
theorem OLK.bind {o : OL} {f : List D → En → Out} {Q0 : List V → Hp → Prop} (h : OutK K mg Wx W H σ e Q (o.bind f))
    (k : ∀ ds vs e1 W1 H1, SR W1 K H1 σ e1 → EX W H σ e W1 H1 σ e1 → RpL W1 K H1 ds vs → OutK K mg Wx W1 H1 σ e1 Q (f ds e1) → Q0 vs H1) : OLK K mg Wx W H σ e Q0 o :=
  match o with
    | .stuck => h
    | .ex z e' => h
    | .ok ds e1 => fun vs W1 H1 sr1 x r => k ds vs e1 W1 H1 sr1 x r (OutK.go (o := f ds e1) x h)
theorem OLK.go {Q : List V → Hp → Prop} (x : EX W H σ e W1 H1 σ e1) : ∀ {o : OL}, OLK K mg Wx W H σ e Q o → OLK K mg Wx W1 H1 σ e1 Q o
  | .stuck, h => h
  | .ok s e', h => fun v W' H' sr y r => h v W' H' sr (x.trans y) r
  | .ex z e', h => fun c d W' H' sr y r => h c d W' H' sr (x.trans y) r
theorem RpL.vzL : ∀ {ds : List D} {vs : List V}, RpL W K H ds vs → VzL W K H ds vs
  | [], _, h => h
  | d :: ds, _, ⟨v, us, ev, h1, h2⟩ => ⟨v, us, ev, .of h1, RpL.vzL h2⟩
end
abbrev FL := En → OL
def tMs (K : PySem.W.Frag) (mg : Str → Option Value) (Wx : WX) (f : FL) : TA := fun σ H Q => ∃ (W : List Addr) (e : En), SR W K H σ e ∧ OLK K mg Wx W H σ e Q (f e)
structure PMs (X : Cx) (Wx : WX) (es : List Expr) (f : FL) : Prop where
  pa : PA X es (tMs X.K X.mg Wx f)
theorem PMs.of {X : Cx} {Wx : WX} {es : List Expr} {f : FL} (h : ∃ t : TA, PA X es t ∧ ∀ (W : List Addr) (H : Hp) (σ : St) (e : En) (Q : List V → Hp → Prop), SR W X.K H σ e → OLK X.K X.mg Wx W H σ e Q (f e) → t σ H Q) : PMs X Wx es f :=
  let ⟨_, p, k⟩ := h; ⟨⟨fun pos pins s σ H Q I ⟨W, e, a, b⟩ => p.run pos pins s σ H Q I (k W H σ e Q a b)⟩⟩
theorem PMs.run {X : Cx} {Wx : WX} {es : List Expr} {f : FL} (h : PMs X Wx es f) : ∃ t : TA, PA X es t ∧ ∀ (W : List Addr) (H : Hp) (σ : St) (e : En) (Q : List V → Hp → Prop), SR W X.K H σ e → OLK X.K X.mg Wx W H σ e Q (f e) → t σ H Q :=
  ⟨_, h.pa, fun W H σ e Q a b => ⟨W, e, a, b⟩⟩
section
variable {X : Cx} {Wx : WX} {a b c : Expr} {es rest : List Expr} {fa fb fc : FM} {fs : FL} {pos : Pos} {g : D → D → Option RV}
@[simp] def mPP (f : FP) : FM := fun e => rvO (f e) e
theorem pm_pp {f : FP} (h : PP X a f) : PM X Wx a (mPP f) := by
  obtain ⟨t, p, k⟩ := h.run
  refine PM.of ⟨t, p, fun W H σ e Q sr h => ?_⟩
  obtain ⟨r, er, kq⟩ := OutK.rvo sr h
  exact k W H σ e Q r sr er kq
@[simp] def m2 (g : D → D → Option RV) (fa fb : FM) : FM := fun e => (fa e).bind fun a e1 => (fb e1).bind fun b e2 => rvO (g a b) e2
theorem pm_two {rl : R2} {t : TE} {q : Expr} (pt : ∀ ta tb, PE X a ta → PE X b tb → PE X q (tOp rl ta tb)) (h2 : ∀ (W : List Addr) (H : Hp) (x y : V) (dx dy : D) (r : RV) (Q : VK), WM W H → Vz W X.K H dx x → Vz W X.K H dy y → g dx dy = some r → KQ W X.K H r Q → rl x y H Q)
    (ha : PM X Wx a fa) (hb : PM X Wx b fb) : PM X Wx q (m2 g fa fb) := by
  obtain ⟨ta, pa, ka⟩ := ha.run
  obtain ⟨tb, pb, kb⟩ := hb.run
  refine PM.of ⟨_, pt _ _ pa pb, fun W H σ e Q sr h => ?_⟩
  refine ka W H σ e _ sr (DK.bind sr.wm h fun d v e1 W1 H1 sr1 x1 r1 h1 => kb W1 H1 σ e1 _ sr1 (DK.bind sr1.wm h1 fun d2 u e2 W2 H2 sr2 x2 r2 h2' => ?_))
  obtain ⟨r, er, kq⟩ := OutK.rvo sr2 h2'
  exact h2 W2 H2 v u d d2 r Q sr2.wm (.of (Rp.mono (x2.ex sr1) d r1)) (.of r2) er kq
theorem pm_bin {op : Operator} (ho : Op2 X (binaryOp op) g) (ha : PM X Wx a fa) (hb : PM X Wx b fb) : PM X Wx (.BinOp a op b pos) (m2 g fa fb) := by
  obtain ⟨rl, h1, h2⟩ := ho.run
  exact pm_two (t := tNone) (fun ta tb pa pb => pe_op h1 pa pb) h2 ha hb
where tNone : TE := fun _ _ _ => True
theorem pm_ix (ha : PM X Wx a fa) (hb : PM X Wx b fb) (hs : PlainIx b := by intro _ _; rfl) : PM X Wx (.Subscript a b pos) (m2 gIx fa fb) := by
  obtain ⟨rl, h1, h2⟩ := (ix_ok (X := X)).run
  exact pm_two (t := pm_bin.tNone) (fun ta tb pa pb => pe_ix h1 pa pb hs) h2 ha hb
/-! ### and, or, not, if as values -/
def D.b? : D → Option Bool
  | .bl b => some b
  | _ => none
@[simp] def mAnd (fa fb : FM) : FM := fun e => (fa e).bind fun a e1 => match a with
  | .bl b => if b = true then fb e1 else .ok (.d (.bl false)) e1
  | _ => .stuck
@[simp] def mOr (fa fb : FM) : FM := fun e => (fa e).bind fun a e1 => match a with
  | .bl b => if b = true then .ok (.d (.bl true)) e1 else fb e1
  | _ => .stuck
@[simp] def mNot (fa : FM) : FM := fun e => (fa e).bind fun a e1 => match a with
  | .bl b => .ok (.d (.bl (!b))) e1
  | _ => .stuck
theorem OutK.d {W : List Addr} {K : PySem.W.Frag} {mg : Str → Option Value} {H : Hp} {σ : St} {e : En} {Q : VK} {x : D} {v : V} (sr : SR W K H σ e) (h : OutK K mg Wx W H σ e Q (.ok (.d x) e)) (r : Rp W K H x v) : Q v H :=
  h v W H sr .refl r fun z => nomatch z
@[simp] def mIf (t : FT) (fa fb : FM) : FM := fun e => match t e with
  | some q => if q = true then fa e else fb e
  | none => .stuck
/-! ### argument lists, displays, built-in functions -/
@[simp] def lNil : FL := fun e => .ok [] e
@[simp] def lCons (fa : FM) (fs : FL) : FL := fun e => (fa e).cons fs
theorem am_nil : PMs X Wx [] lNil := PMs.of ⟨_, pa_nil, fun W H σ e Q sr h => h [] W H sr .refl rfl⟩
theorem OLK.cons {W : List Addr} {K : PySem.W.Frag} {mg : Str → Option Value} {H : Hp} {σ : St} {e : En} {Q : List V → Hp → Prop} {d : D} {v : V} (sr : SR W K H σ e) (r : Rp W K H d v) : ∀ {o : OL}, OLK K mg Wx W H σ e Q (OL.cons d o) → OLK K mg Wx W H σ e (fun us H' => Q (v :: us) H') o
  | .stuck, h => h
  | .ex _ _, h => h
  | .ok ds e', h => fun us W' H' sr' x r' => h (v :: us) W' H' sr' x ⟨v, us, rfl, Rp.mono (x.ex sr) d r, r'⟩
theorem am_cons (ha : PM X Wx a fa) (hr : PMs X Wx es fs) (hs : starEach (a :: es) X.env = (false, eval a X.env) :: starEach es X.env := by rfl) : PMs X Wx (a :: es) (lCons fa fs) := by
  obtain ⟨t, p, ka⟩ := ha.run
  obtain ⟨u, p', kb⟩ := hr.run
  refine PMs.of ⟨_, pa_cons p p' hs, fun W H σ e Q sr h => ka W H σ e _ sr ?_⟩
  unfold lCons at h
  revert h
  generalize fa e = o
  intro h
  refine DK.out sr.wm ?_
  cases o with
  | stuck => exact h
  | ex x e1 => exact h
  | ok s e1 =>
    intro v W1 H1 sr1 x r
    exact kb W1 H1 σ e1 _ sr1 (OLK.cons sr1 r (OLK.go x h))
@[simp] def mTup (fs : FL) : FM := fun e => (fs e).bind fun ds e1 => rvO (if ds.length ≤ SZ then some (.fz (.tup ds)) else none) e1
@[simp] def mLst (fs : FL) : FM := fun e => (fs e).bind fun ds e1 => rvO (if ds.length ≤ SZ then some (.fr ds) else none) e1
theorem pm_tup {x1} (h : PMs X Wx es fs) : PM X Wx (.Tuple es x1 pos) (mTup fs) := by
  obtain ⟨t, p, ka⟩ := h.run
  refine PM.of ⟨_, pe_tupN p, fun W H σ e Q sr h => ka W H σ e _ sr (OLK.bind h fun ds vs e1 W1 H1 sr1 x1 r1 h1 => ?_)⟩
  obtain ⟨r, er, kq⟩ := OutK.rvo sr1 h1
  split at er
  · rename_i hz
    cases er
    exact ⟨by rw [SZ_eq, ← r1.length]; exact hz, kq.tup sr1.wm r1⟩
  · cases er
theorem pm_lst (h : PMs X Wx es fs) : PM X Wx (.List es pos) (mLst fs) := by
  obtain ⟨t, p, ka⟩ := h.run
  refine PM.of ⟨_, pe_lst p, fun W H σ e Q sr h => ka W H σ e _ sr (OLK.bind h fun ds vs e1 W1 H1 sr1 x1 r1 h1 => ?_)⟩
  obtain ⟨r, er, kq⟩ := OutK.rvo sr1 h1
  split at er
  · rename_i hz
    cases er
    exact ⟨by rw [SZ_eq, ← r1.length]; exact hz, kq.fr sr1.wm r1⟩
  · cases er
@[simp] def mCa (g : List D → Option RV) (fs : FL) : FM := fun e => (fs e).bind fun ds e1 => rvO (g ds) e1
theorem pm_callB {g : List D → Option RV} {id : String} {x : Str} {p : Pos} (hc : Ca X (.builtin id) g) (hm : X.mg x = none) (ha : PMs X Wx (a :: es) fs) (hg : Gl X x := by rfl) (hv : bootBuiltins x = some (.builtin id) := by decide +kernel) (hn : x ≠ "__name__" := by decide) (hdb : (x == ("__debug__" : Str)) = false := by decide)
    (he : starEach (a :: es) X.env = (false, eval a X.env) :: starEach es X.env := by rfl) (hpl : (backTo pos (starEach es X.env)).any (·.1) = false := by rfl) : PM X Wx (.Call (.Name x p) (a :: es) [] pos) (mCa g fs) := by
  obtain ⟨rl, h1, h2⟩ := hc.run
  obtain ⟨t, pa, ka⟩ := ha.run
  refine PM.of ⟨_, pe_callB h1 hg hm hv pa hn hdb he hpl, fun W H σ e Q sr h => ka W H σ e _ sr (OLK.bind h fun ds vs e1 W1 H1 sr1 x1 r1 h3 => ?_)⟩
  obtain ⟨r, er, kq⟩ := OutK.rvo sr1 h3
  exact h2 W1 H1 vs ds r Q sr1.wm r1.vzL er kq
end
end DL

set_option maxHeartbeats 2000000
namespace DL
open PySem PySem.Spec PyProof.Rows L2

/-! ## a def's mirror, out of its body's -/
@[simp] def outs : List S → En → Option En
  | [], _ => some []
  | s :: ss, e => match e with
    | [] => none
    | o :: r => (if s.own = true then (match o with
      | some (.lst xs) => some (S.lst xs)
      | _ => none) else some s).bind fun t => (outs ss r).map fun q => some t :: q
@[simp] def lkOk (lk : List Nat) : Nat → List S → Bool
  | _, [] => true
  | i, s :: ss => (!s.own || lk.contains i) && lkOk lk (i + 1) ss
@[simp] def Out.back (ss : List S) (s : S) (e : En) : Out := match outs ss e with
  | some e' => .ok s e'
  | none => .stuck
@[simp] def Out.backX (ss : List S) (x : XD) (e : En) : Out := match outs ss e with
  | some e' => .ex x e'
  | none => .stuck
@[simp] def fin (ss : List S) : Fl → Out
  | .nx e => Out.back ss (.d .non) e
  | .rt s e => Out.back ss s e
  | .ex x e => Out.backX ss x e
  | _ => .stuck
@[simp] def enter (n : Nat) (ss : List S) : En := ss.map some ++ List.replicate (n - ss.length) none
@[simp] def fnF (n : Nat) (lk : List Nat) (fb : FS) : List S → Out := fun ss => if lkOk lk 0 ss = true then fin ss (fb (enter n ss)) else .stuck
theorem lkOk_at {lk : List Nat} : ∀ {ss : List S} {k i : Nat} {s : S}, lkOk lk k ss = true → ss[i]? = some s → s.own = true → k + i ∈ lk
  | [], _, _, _, _, h, _ => by simp at h
  | t :: ss, k, 0, s, q, h, o => by
    obtain ⟨q1, _⟩ := Bool.and_eq_true_iff.mp (show ((!t.own || lk.contains k) && lkOk lk (k + 1) ss) = true from q)
    simp at h
    subst h
    rw [o] at q1
    simpa using q1
  | t :: ss, k, i + 1, s, q, h, o => by
    obtain ⟨_, q2⟩ := Bool.and_eq_true_iff.mp (show ((!t.own || lk.contains k) && lkOk lk (k + 1) ss) = true from q)
    have := lkOk_at (i := i) q2 (by simpa using h) o
    rw [show k + (i + 1) = k + 1 + i from by omega]
    exact this
theorem outs_len : ∀ {ss : List S} {e o : En}, outs ss e = some o → o.length = ss.length
  | [], _, _, h => by cases h; rfl
  | s :: ss, [], _, h => by cases h
  | s :: ss, t :: r, o, h => by
    obtain ⟨u, _, h⟩ := Option.bind_eq_some_iff.mp h
    obtain ⟨q, h1, h2⟩ := Option.map_eq_some_iff.mp h
    rw [← h2, List.length_cons, List.length_cons, outs_len h1]
theorem outs_at : ∀ {ss : List S} {e o : En} {i : Nat} {s : S}, outs ss e = some o → ss[i]? = some s → (s.own = false ∧ o[i]? = some (some s)) ∨ (s.own = true ∧ ∃ xs, o[i]? = some (some (.lst xs)) ∧ e[i]? = some (some (.lst xs)))
  | [], _, _, _, _, _, h => by simp at h
  | s :: ss, [], _, _, _, h, _ => by cases h
  | s :: ss, t :: r, o, 0, z, h, q => by
    obtain ⟨u, h0, h⟩ := Option.bind_eq_some_iff.mp h
    obtain ⟨p, h1, h2⟩ := Option.map_eq_some_iff.mp h
    simp at q
    subst q h2
    cases hs : s.own with
    | false =>
      rw [hs] at h0
      cases h0
      exact .inl ⟨rfl, rfl⟩
    | true =>
      rw [hs, if_pos rfl] at h0
      split at h0
      · cases h0
        exact .inr ⟨rfl, _, rfl, rfl⟩
      · cases h0
  | s :: ss, t :: r, o, i + 1, z, h, q => by
    obtain ⟨u, h0, h⟩ := Option.bind_eq_some_iff.mp h
    obtain ⟨p, h1, h2⟩ := Option.map_eq_some_iff.mp h
    subst h2
    exact outs_at (i := i) h1 (by simpa using q)
theorem own_lst {s : S} (h : s.own = true) : ∃ xs, s = .lst xs := by
  cases s with
  | d x => cases h
  | lst xs => exact ⟨xs, rfl⟩
section
variable {W W' : List Addr} {K : PySem.W.Frag} {H H' : Hp} {σ' : St} {e' o : En} {vs : List V} {ss : List S} {n m : Nat} {lk : List Nat}
theorem get_map {α β : Type} {f : α → β} {l : List α} {i : Nat} {y : β} (h : (l.map f)[i]? = some y) : ∃ x, l[i]? = some x ∧ f x = y := by
  rw [List.getElem?_map] at h
  exact Option.map_eq_some_iff.mp h
theorem ext_at {α : Type} {l : List (Option α)} {k i : Nat} {x : α} (h : (l ++ List.replicate k none)[i]? = some (some x)) : l[i]? = some (some x) := by
  by_cases hi : i < l.length
  · rw [List.getElem?_append_left hi] at h
    exact h
  · rw [List.getElem?_append_right (by omega), List.getElem?_replicate] at h
    split at h <;> cases h
theorem ext_to {α : Type} {l : List (Option α)} {k i : Nat} {x : Option α} (h : l[i]? = some x) : (l ++ List.replicate k none)[i]? = some x := by
  rw [List.getElem?_append_left (List.getElem?_eq_some_iff.mp h).1]
  exact h
theorem Ow.ext {σ : St} {e : En} {k : Nat} {a : Addr} (o : Ow (σ ++ List.replicate k none) (e ++ List.replicate k none) a) : Ow σ e a := by
  obtain ⟨i, s, h1, h2, h3⟩ := o
  exact ⟨i, s, ext_at h1, h2, ext_at h3⟩
theorem SR.ext {σ : St} {e : En} (r : SR W K H σ e) (k : Nat) : SR W K H (σ ++ List.replicate k none) (e ++ List.replicate k none) where
  tb := r.tb
  wm := r.wm
  len := by rw [List.length_append, List.length_append, r.len, List.length_replicate, List.length_replicate]
  sl := fun i s h => by
    obtain ⟨v, h1, h2⟩ := r.sl i s (ext_at h)
    exact ⟨v, ext_to h1, h2⟩
  one := fun i j s t a h1 h2 o1 o2 h3 h4 => r.one i j s t a (ext_at h1) (ext_at h2) o1 o2 (ext_at h3) (ext_at h4)
/-- behind the body: the parameters' frame -/
theorem outs_ok (r0 : SR W K H (vs.map some) (ss.map some)) (hk : lkOk lk 0 ss = true) (ho : outs ss e' = some o) (sr : SR W' K H' σ' e') (x : EX W H (vs.map some ++ List.replicate n none) (ss.map some ++ List.replicate n none) W' H' σ' e')
    (hl : ∀ i ∈ lk, σ'[i]? = (vs.map some ++ List.replicate n none)[i]?) :
    SR W' K H' (vs.map some) o ∧ EX W H (vs.map some) (ss.map some) W' H' (vs.map some) o ∧ (∀ a, Ow (vs.map some) o a → Ow σ' e' a) ∧ ∀ a, Ow (vs.map some ++ List.replicate n none) (ss.map some ++ List.replicate n none) a → Ow (vs.map some) o a := by
  have hlen : vs.length = ss.length := by have := r0.len; rw [List.length_map, List.length_map] at this; exact this.symm
  have at_ : ∀ {i : Nat} {t : S}, o[i]? = some (some t) → ∃ s v, ss[i]? = some s ∧ vs[i]? = some v ∧ ((s.own = false ∧ t = s) ∨ (s.own = true ∧ e'[i]? = some (some t) ∧ t.own = true ∧ σ'[i]? = some (some v))) := by
    intro i t h
    have hi : i < ss.length := by rw [← outs_len ho]; exact (List.getElem?_eq_some_iff.mp h).1
    obtain ⟨s, hs⟩ : ∃ s, ss[i]? = some s := ⟨ss[i], List.getElem?_eq_getElem hi⟩
    obtain ⟨v, hv⟩ : ∃ v, vs[i]? = some v := ⟨vs[i]'(by omega), List.getElem?_eq_getElem (by omega)⟩
    refine ⟨s, v, hs, hv, ?_⟩
    rcases outs_at ho hs with ⟨n1, h1⟩ | ⟨n1, xs, h1, h2⟩
    · rw [h] at h1
      cases h1
      exact .inl ⟨n1, rfl⟩
    · rw [h] at h1
      cases h1
      refine .inr ⟨n1, h2, rfl, ?_⟩
      have q := lkOk_at hk hs n1
      rw [Nat.zero_add] at q
      rw [hl i q, ext_to (by rw [List.getElem?_map, hv]; rfl)]
  have ow1 : ∀ a, Ow (vs.map some) o a → Ow σ' e' a := by
    rintro a ⟨i, t, h1, h2, h3⟩
    obtain ⟨s, v, hs, hv, q⟩ := at_ h1
    rw [List.getElem?_map, hv] at h3
    cases h3
    rcases q with ⟨n1, rfl⟩ | ⟨_, q1, _, q3⟩
    · rw [n1] at h2; cases h2
    · exact ⟨i, t, q1, h2, q3⟩
  have ow2 : ∀ a, Ow (vs.map some ++ List.replicate n none) (ss.map some ++ List.replicate n none) a → Ow (vs.map some) o a := by
    intro a z
    obtain ⟨i, s, h1, h2, h3⟩ := z.ext
    obtain ⟨s', hs, e1⟩ := get_map h1
    cases e1
    rcases outs_at ho hs with ⟨n1, _⟩ | ⟨_, xs, q1, q2⟩
    · rw [n1] at h2; cases h2
    · exact ⟨i, .lst xs, q1, rfl, h3⟩
  refine ⟨⟨sr.tb, sr.wm, by rw [outs_len ho, List.length_map, hlen], fun i t h => ?_, fun i j s t a h1 h2 o1 o2 h3 h4 => ?_⟩, ⟨fun a oo h nn m => x.keep a oo h (fun z => nn z.ext) m, x.frz, fun a h nn => ?_, fun a h => ?_, x.dom⟩, ow1, ow2⟩
  · obtain ⟨s, v, hs, hv, q⟩ := at_ h
    refine ⟨v, by rw [List.getElem?_map, hv]; rfl, ?_⟩
    rcases q with ⟨n1, rfl⟩ | ⟨_, q1, _, q3⟩
    · obtain ⟨v', h1, h2⟩ := r0.sl i t (by rw [List.getElem?_map, hs]; rfl)
      rw [List.getElem?_map, hv] at h1
      cases h1
      cases t with
      | d y => exact Rp.mono (x.ex (r0.ext n)) y h2
      | lst xs => cases n1
    · obtain ⟨v', h1, h2⟩ := sr.sl i t q1
      rw [q3] at h1
      cases h1
      exact h2
  · obtain ⟨s1, v1, _, hv1, q1⟩ := at_ h1
    obtain ⟨s2, v2, _, hv2, q2⟩ := at_ h2
    rw [List.getElem?_map, hv1] at h3
    rw [List.getElem?_map, hv2] at h4
    cases h3
    cases h4
    rcases q1 with ⟨n1, rfl⟩ | ⟨_, q1, _, q3⟩
    · rw [n1] at o1; cases o1
    · rcases q2 with ⟨n1, rfl⟩ | ⟨_, p1, _, p3⟩
      · rw [n1] at o2; cases o2
      · exact sr.one i j s t a q1 p1 o1 o2 q3 p3
  · obtain ⟨h1, h2⟩ := x.tmp a h fun z => nn z.ext
    exact ⟨h1, fun z => h2 (ow1 a z)⟩
  · rcases x.sub a (ow1 a h) with z | z
    · exact .inl z.ext
    · exact .inr z
end

/-! ## the promise of a def -/
structure Fd (P : Program) (w : World) (K : PySem.W.Frag) (mg : Str → Option Value) (base : Heap) (k : Nat) (f : Addr) (fd : FuncData) (ps : List Str) (F : List S → Out) : Prop where
  run : ∀ (A : Around) (outer : List Env) (s : Shared) (H : Hp) (args : Args) (us : List Value) (vs : List V) (ss : List S) (W : List Addr) (Q : VK) (E : XK), Room k A → A.guards = some [] → Env0 P w K mg base A outer s H → BindsTo s fd args (ps.zip us) → Vals vs us →
    vs.length = ps.length → SR W K H (vs.map some) (ss.map some) → OutK K mg (fun c d _ H' => E c d H') W H (vs.map some) (ss.map some) Q (F ss) → codeAny (model P w) A (.call (.ref f) args) (CR (CX P w) outer P w H s Q E) s
theorem Fd.mono {P : Program} {w : World} {K : PySem.W.Frag} {mg : Str → Option Value} {base : Heap} {k k' : Nat} {f : Addr} {fd : FuncData} {ps : List Str} {F : List S → Out} (h : Fd P w K mg base k f fd ps F) (hk : k ≤ k') : Fd P w K mg base k' f fd ps F :=
  ⟨fun A outer s H args us vs ss W Q E r => h.run A outer s H args us vs ss W Q E (r.mono hk)⟩
section
variable {P : Program} {w : World} {K : PySem.W.Frag} {mg : Str → Option Value} {base : Heap} {name qual : Str} {params : Arguments} {body : List Stmt} {scope : Scope} {dvs : List V} {kws : List (Str × V)} {f : Addr} {fd : FuncData}
/-- what the body's end is worth to the caller -/
theorem fin_ok {W : List Addr} {H : Hp} {vs : List V} {ss : List S} {n : Nat} {lk : List Nat} {Q : VK} {E : XK} (r0 : SR W K H (vs.map some) (ss.map some)) (hk : lkOk lk 0 ss = true) : ∀ {fl : Fl}, OutK K mg (fun c d _ H' => E c d H') W H (vs.map some) (ss.map some) Q (fin ss fl) →
    FlK K mg (fun c d _ H' => E c d H') lk W H (vs.map some ++ List.replicate n none) (ss.map some ++ List.replicate n none) { nx := fun _ H' => Q .non H', rt := Q } fl := by
  intro fl h
  cases fl with
  | stuck => exact h.elim
  | bk e => exact h.elim
  | ct e => exact h.elim
  | nx e =>
    intro W' H' σ' sr x hl
    have h : OutK K mg (fun c d _ H' => E c d H') W H (vs.map some) (ss.map some) Q (Out.back ss (.d .non) e) := h
    unfold Out.back at h
    cases ho : outs ss e with
    | none => rw [ho] at h; exact h.elim
    | some o =>
      rw [ho] at h
      obtain ⟨s1, x1, _, _⟩ := outs_ok r0 hk ho sr x hl
      exact h .non W' H' s1 x1 rfl fun z => nomatch z
  | rt s e =>
    intro v W' H' σ' sr x hl rv fr
    have h : OutK K mg (fun c d _ H' => E c d H') W H (vs.map some) (ss.map some) Q (Out.back ss s e) := h
    unfold Out.back at h
    cases ho : outs ss e with
    | none => rw [ho] at h; exact h.elim
    | some o =>
      rw [ho] at h
      obtain ⟨s1, x1, o1, o2⟩ := outs_ok r0 hk ho sr x hl
      refine h v W' H' s1 x1 rv fun so a ea => ?_
      obtain ⟨q1, q2⟩ := fr so a ea
      have q3 : ¬ Ow (vs.map some) o a := fun z => q1 (o1 a z)
      exact ⟨q2.elim (fun z => absurd (o2 a z) q3) id, q3⟩
  | ex y e =>
    intro c d W' H' σ' sr x hl rx
    have h : OutK K mg (fun c d _ H' => E c d H') W H (vs.map some) (ss.map some) Q (Out.backX ss y e) := h
    unfold Out.backX at h
    cases ho : outs ss e with
    | none => rw [ho] at h; exact h.elim
    | some o =>
      rw [ho] at h
      obtain ⟨s1, x1, _, _⟩ := outs_ok r0 hk ho sr x hl
      exact h c d W' H' s1 x1 rx
theorem fd_of {N ps : List Str} {k : Nat} {lk : List Nat} {fb : FS} (FD : FunD K name qual params body scope dvs kws f fd) (SC : FnScope N ps scope)
    (hb : ∀ (cdv : Value) (A : Around) (outer : List Env) (s : Shared) (H : Hp) (E : XK), Room k (A.deeper (envOfC qual scope s.heap.objs.size f cdv)) → A.guards = some [] →
      SDs (cxOf (CX P w) P w K mg base N qual scope f cdv A outer s H E) (fun c d _ H' => E c d H') lk body fb) : Fd P w K mg base (k + 1) f fd ps (fnF N.length lk fb) := by
  obtain ⟨oc, od, dV, kV, doc, pm, an, cdv, ct, osl, e, look, code, _, _⟩ := FD.ex
  refine ⟨fun A outer s H args us vs ss W Q E room gd env bind rel hlen r0 out => ?_⟩
  subst e
  have inK : K.In s.heap := env.mod.kin.keeps fun b o q => (env.bs b o q).1
  have noL : s.heap.NoLimit := env.mod.nolimit.keeps fun b o q => (env.bs b o q).1
  have kinds : ∀ y ∈ ps.zip us, scope.names.lookup y.1 = some .local ∨ (scope.names.lookup y.1 = some .cell ∧ ((cellsFrom (s.heap.objs.size + 1) scope.names []).lookup y.1).isSome = true) := by
    intro y hy
    cases SC.par y.1 (List.of_mem_zip hy).1 with
    | inl q => exact .inl q
    | inr q => exact .inr ⟨q, PySem.W.cellsFrom_some _ _ _ (.inl q)⟩
  unfold fnF at out
  split at out
  rotate_left
  · exact out.elim
  rename_i hlk
  refine codeAny_call_function (by have := room.dp; omega) (inK _ _ look) rfl SC.co SC.gen rfl (PySem.W.codeRec_of inK code) (bind _ _ _ _ ?_)
  refine wpAny_newFunctionEnv_cells SC.kind kinds fun env1 he s1 ic => ?_
  subst he
  refine ⟨noL.keeps ic.toInCall.keep, codeAny_func ?_⟩
  have B := hb cdv A outer s H E (room.deeper _) gd
  have hss : ss.length = vs.length := by have := r0.len; rw [List.length_map, List.length_map] at this; exact this
  have I0 : Inv (cxOf (CX P w) P w K mg base N qual scope f cdv A outer s H E) [] (L2.start N vs) H s1 := inv_start SC room.hd env hlen rel ic
  have pre : tS K mg (fun c d _ H' => E c d H') lk fb { nx := fun _ H' => Q .non H', rt := Q } (L2.start N vs) H := by
    refine ⟨W, enter N.length ss, ?_, ?_⟩
    · unfold L2.start enter
      rw [hss]
      exact r0.ext _
    · have := fin_ok (n := N.length - ss.length) r0 hlk out
      unfold L2.start
      rw [← hss]
      exact this
  refine wpAny_mono (B.ps.run [] s1 (L2.start N vs) H _ I0 pre) (fun fl s2 end_ => ?_) fun e s2 z => z
  cases fl with
  | next =>
    obtain ⟨σ2, H2, J, q⟩ := end_
    exact ⟨.non, H2, J.os, J.bare, J.base, J.hok, rfl, q⟩
  | ret u =>
    obtain ⟨v, σ2, H2, J, rv, q⟩ := end_
    exact ⟨v, H2, J.os, J.bare, J.base, J.hok, rv, q⟩
  | brk => exact end_.elim fun _ z => z.elim fun _ z => z.2.elim
  | cont => exact end_.elim fun _ z => z.elim fun _ z => z.2.elim
end
end DL

set_option maxHeartbeats 2000000
namespace DL
open PySem PySem.Spec PyProof.Rows L2

/-! ## calls of the text's defs -/
/-- a def that may be called by its name; F its mirror -/
structure Cal (P : Program) (w : World) (K : PySem.W.Frag) (mg : Str → Option Value) (base : Heap) (k : Nat) (d : He.DefD) (ps : List Str) (F : List S → Out) : Prop where
  ex : ∃ (f : Addr) (fd : FuncData), mg d.name = some (.ref f) ∧ PySem.W.keepIn K (.ref f) = true ∧ Fd P w K mg base k f fd ps F ∧ (∃ kV doc pm an cdv ct, fd = PySem.W.fnOf d.name d.qual d.params d.body d.scope .none kV doc pm an cdv ct) ∧ ∃ oc od osl, K.lookup f = some ⟨oc, od, .func fd, osl⟩
theorem Cal.mono {P : Program} {w : World} {K : PySem.W.Frag} {mg : Str → Option Value} {base : Heap} {k k' : Nat} {d : He.DefD} {ps : List Str} {F : List S → Out} (h : Cal P w K mg base k d ps F) (hk : k ≤ k') : Cal P w K mg base k' d ps F :=
  let ⟨f, fd, a, b, c, e⟩ := h.ex; ⟨⟨f, fd, a, b, c.mono hk, e⟩⟩
/-- how n positional values and keywords named ks come to the parameters -/
def BindsA (d : He.DefD) (ps : List Str) : Prop := ∀ (kV doc pm : Value) (an : Option Addr) (cdv ct : Value) (us : List Value), us.length = ps.length →
  bindArgs (PySem.W.fnOf d.name d.qual d.params d.body d.scope .none kV doc pm an cdv ct) ⟨us, []⟩ = pure (ps.zip us)
def BindsK (d : He.DefD) (ps ks : List Str) (g : {α : Type} → List α → List α → List α) : Prop := ∀ (kV doc pm : Value) (an : Option Addr) (cdv ct : Value) (us ws : List Value), (g us ws).length = ps.length →
  bindArgs (PySem.W.fnOf d.name d.qual d.params d.body d.scope .none kV doc pm an cdv ct) ⟨us, ks.zip ws⟩ = pure (ps.zip (g us ws))
/-- the promise at a call: E: what an exception must meet -/
def spF (K : PySem.W.Frag) (mg : Str → Option Value) (n : Nat) (F : List S → Out) (E : XK) (vs : List V) (H : Hp) (Q : VK) : Prop :=
  vs.length = n ∧ ∃ (W : List Addr) (ss : List S), SR W K H (vs.map some) (ss.map some) ∧ OutK K mg (fun c d _ H' => E c d H') W H (vs.map some) (ss.map some) Q (F ss)
section
variable {X : Cx} {Wx : WX} {k : Nat} {d : He.DefD} {ps ks : List Str} {F : List S → Out} {x : Str} {p pos : Pos} {a : Expr} {es : List Expr} {t tk : TA} {kws : List Keyword}
theorem run_fd {f : Addr} {fd : FuncData} {pins : List (Addr × Obj)} {σ : St} {H : Hp} {s : Shared} {Q : VK} {us : List Value} {vs : List V} {pq : List Value} {kq : List (Str × Value)} (FF : Fd X.prog X.w X.K X.mg X.base k f fd ps F) (hr : Room k X.A) (hgd : X.A.guards = some []) (tk : Takes X Wx)
    (hb : BindsTo s fd ⟨pq, kq⟩ (ps.zip us)) (I : Inv X pins σ H s) (r : Vals vs us) (h : spF X.K X.mg ps.length F (fun c d H' => Wx c d σ H') vs H Q) : wpAny (model X.prog X.w) X.A (call (.ref f) pq kq) (EP X pins σ Q) X.xe s := by
  obtain ⟨hl, W, ss, sr, out⟩ := h
  refine wpAny_call (codeAny_mono (FF.run X.A X.stack s H ⟨pq, kq⟩ us vs ss W Q (fun c d H' => Wx c d σ H') hr hgd I.env0 hb r hl sr out) fun rs s' hq => ?_)
  cases rs with
  | error e => exact tk e s' (XE.of_call I (fun cls d H' z => z) hq)
  | ok fl =>
    cases fl with
    | ret u => exact I.after hq
    | next => exact False.elim hq
    | brk => exact False.elim hq
    | cont => exact False.elim hq
def tFd (K : PySem.W.Frag) (mg : Str → Option Value) (n : Nat) (F : List S → Out) (Wx : WX) (t : TA) : TE := fun σ H Q => t σ H fun vs H1 => spF K mg n F (fun c d H' => Wx c d σ H') vs H1 Q
theorem pe_fd (c : Cal X.prog X.w X.K X.mg X.base k d ps F) (hx : d.name = x) (hb : BindsA d ps) (hr : Room k X.A) (hgd : X.A.guards = some []) (tk : Takes X Wx) (ha : PA X (a :: es) t) (hg : Gl X x)
    (hdb : (x == ("__debug__" : Str)) = false := by decide) (he : starEach (a :: es) X.env = (false, eval a X.env) :: starEach es X.env := by rfl) (hpl : (backTo pos (starEach es X.env)).any (·.1) = false := by rfl) :
    PE X (.Call (.Name x p) (a :: es) [] pos) (tFd X.K X.mg ps.length F Wx t) := by
  obtain ⟨f, fd, hm, hk, FF, ⟨kV, doc, pm, an, cdv, ct, efd⟩, _⟩ := c.ex
  rw [hx] at hm
  refine ⟨fun pins s σ H Q I h => wpAny_Call_Name_kw (ld_glob I hg hm ?_ hdb)⟩
  refine PySem.W.callWith_K (h₀ := X.base) I.ok.mod.kin hk (thn (ha.run pos pins s σ H _ I h) fun us s1 ⟨vs, H1, I1, r, q⟩ => ⟨I1.kIn, ?_⟩) he hpl
  have hl : us.length = ps.length := by rw [← r.length]; exact q.1
  exact run_fd FF hr hgd tk (.of_eq (by rw [efd]; exact hb kV doc pm an cdv ct us hl)) I1 r q
/-- only keywords -/
def tFdK (K : PySem.W.Frag) (mg : Str → Option Value) (n : Nat) (F : List S → Out) (Wx : WX) (g : {α : Type} → List α → List α → List α) (t tk : TA) : TE := fun σ H Q => t σ H fun vs H1 => tk σ H1 fun zs H2 => spF K mg n F (fun c d H' => Wx c d σ H') (g vs zs) H2 Q
structure GVals (g : {α : Type} → List α → List α → List α) : Prop where
  rel : ∀ {vs : List V} {us : List Value} {zs : List V} {ws : List Value}, Vals vs us → Vals zs ws → Vals (g vs zs) (g us ws)
theorem pe_fdK0 {g : {α : Type} → List α → List α → List α} (c : Cal X.prog X.w X.K X.mg X.base k d ps F) (hx : d.name = x) (hb : BindsK d ps ks g) (gv : GVals g) (hr : Room k X.A) (hgd : X.A.guards = some []) (tk : Takes X Wx) {tw : TA} (hw : PK X kws tw) (hg : Gl X x)
    (hall : (backToKw pos (keywordEach kws X.env)).all (·.1.isSome) = true := by rfl) (hks : (backToKw pos (keywordEach kws X.env)).filterMap (·.1) = ks := by rfl)
    (hdb : (x == ("__debug__" : Str)) = false := by decide) (hpl : ((backTo pos (starEach [] X.env)).any (·.1) || (backToKw pos (keywordEach kws X.env)).any (·.1.isNone)) = false := by rfl) :
    PE X (.Call (.Name x p) [] kws pos) (tFdK X.K X.mg ps.length F Wx g tNil tw) := by
  obtain ⟨f, fd, hm, hk, FF, ⟨kV, doc, pm, an, cdv, ct, efd⟩, _⟩ := c.ex
  rw [hx] at hm
  refine ⟨fun pins s σ H Q I h => wpAny_Call_Name_kw (ld_glob I hg hm ?_ hdb)⟩
  have h : tw σ H fun zs H2 => spF X.K X.mg ps.length F (fun c d H' => Wx c d σ H') (g [] zs) H2 Q := h
  refine PySem.W.callWith_KW0 (h₀ := X.base) I.ok.mod.kin hk hall (thn (hw.run pos pins s σ H _ I h) fun ws s2 ⟨zs, H2, I2, rz, q⟩ => ⟨I2.kIn, ?_⟩) hpl
  rw [hks]
  have r2 := gv.rel (vs := []) (us := []) .nil rz
  exact run_fd FF hr hgd tk (.of_eq (by rw [efd]; exact hb kV doc pm an cdv ct [] ws (by rw [← r2.length]; exact q.1))) I2 r2 q
theorem takes_no : Takes X (fun _ _ _ _ => False) := fun u s' ⟨_, _, _, _, _, _, _, _, _, _, _, _, _, _, _, _, z⟩ => z.elim
end

/-! ### calls that change nothing and let nothing out -/
mutual
def D.flat : D → Bool
  | .non => true
  | .bl _ => true
  | .int _ => true
  | .str _ => true
  | .tup xs => flatL xs
  | .lst _ => false
  | .ro xs => flatL xs
  | .dic _ _ => false
def flatL : List D → Bool
  | [] => true
  | d :: ds => d.flat && flatL ds
end
mutual
theorem Rp.flat {W W' : List Addr} {K : PySem.W.Frag} {H : Hp} : ∀ (x : D) {v : V}, x.flat = true → Rp W K H x v → Rp W' K H x v
  | .non, _, _, h => h
  | .bl _, _, _, h => h
  | .int _, _, _, h => h
  | .str _, _, _, h => h
  | .tup xs, _, o, ⟨a, vs, e, h1, h2⟩ => ⟨a, vs, e, h1, RpL.flat xs o h2⟩
  | .ro xs, _, o, ⟨a, vs, e, h1, h2⟩ => ⟨a, vs, e, h1, RpL.flat xs o h2⟩
theorem RpL.flat {W W' : List Addr} {K : PySem.W.Frag} {H : Hp} : ∀ (xs : List D) {vs : List V}, flatL xs = true → RpL W K H xs vs → RpL W' K H xs vs
  | [], _, _, h => h
  | d :: ds, _, o, ⟨v, us, e, h1, h2⟩ => by
    obtain ⟨o1, o2⟩ := Bool.and_eq_true_iff.mp (show (d.flat && flatL ds) = true from o)
    exact ⟨v, us, e, Rp.flat d o1 h1, RpL.flat ds o2 h2⟩
end
@[simp] def RV.lent : RV → Bool
  | .ow _ => true
  | _ => false
def S.flat : S → Bool
  | .d x => x.flat
  | .lst xs => flatL xs
@[simp] def S.rv : S → RV
  | .d x => .fz x
  | .lst xs => .fr xs
@[simp] def callP (F : List S → Out) (rs : List RV) : Option RV := match F (rs.map fun r => .d r.view) with
  | .ok s _ => if (rs.all fun r => !r.lent) = true ∨ s.flat = true then some s.rv else none
  | _ => none
@[simp] def pFd (F : List S → Out) (fs : FA) : FP := fun e => (fs e).bind (callP F)
/-- the lists among the arguments that the caller holds -/
def held : List RV → List V → List Addr
  | r :: rs, v :: vs => (match r, v with
    | .fz _, _ => held rs vs
    | _, .ref a => a :: held rs vs
    | _, _ => held rs vs)
  | _, _ => []
section
variable {W W1 W0 : List Addr} {K : PySem.W.Frag} {mg : Str → Option Value} {H H1 : Hp} {F : List S → Out}
theorem held_in : ∀ {rs : List RV} {vs : List V}, RVs W1 K H H1 rs vs → (rs.all fun r => !r.lent) = true → ∀ a ∈ held rs vs, H a = none
  | [], vs, _, _, a, ha => by
    unfold held at ha
    cases ha
  | r :: rs, _, ⟨v, us, e, h1, h2⟩, hl, a, ha => by
    subst e
    obtain ⟨l1, l2⟩ := Bool.and_eq_true_iff.mp (show ((!r.lent) && rs.all fun r => !r.lent) = true from hl)
    cases r with
    | fz x => exact held_in h2 l2 a ha
    | ow xs => cases l1
    | fr xs =>
      obtain ⟨b, ws, rfl, n, _⟩ := h1
      rcases List.mem_cons.mp (show a ∈ b :: held rs us from ha) with rfl | ha
      · exact n
      · exact held_in h2 l2 a ha
theorem frozen_args {W0 : List Addr} (sb : ∀ a ∈ W0, a ∈ W1) (wm : WM W1 H1) : ∀ {rs : List RV} {vs : List V}, RVs W1 K H H1 rs vs → (∀ a ∈ held rs vs, a ∉ W0) → RpL W0 K H1 (rs.map RV.view) vs
  | [], _, h, _ => h
  | r :: rs, _, ⟨v, us, e, h1, h2⟩, hn => by
    subst e
    cases r with
    | fz x => exact ⟨v, us, rfl, Rp.weak sb (fun a h => wm a (sb a h)) h1 wm, frozen_args sb wm h2 hn⟩
    | fr xs =>
      obtain ⟨b, ws, rfl, n, m, hb, q⟩ := h1
      exact ⟨_, us, rfl, ⟨b, ws, rfl, ⟨hb, hn b List.mem_cons_self⟩, RpL.weak sb wm q⟩, frozen_args sb wm h2 fun a ha => hn a (List.mem_cons_of_mem _ ha)⟩
    | ow xs =>
      obtain ⟨b, ws, rfl, m, hb, q⟩ := h1
      exact ⟨_, us, rfl, ⟨b, ws, rfl, ⟨hb, hn b List.mem_cons_self⟩, RpL.weak sb wm q⟩, frozen_args sb wm h2 fun a ha => hn a (List.mem_cons_of_mem _ ha)⟩
theorem no_own {σ : St} {ds : List D} {a : Addr} : ¬ Ow σ ((ds.map S.d).map some) a := by
  rintro ⟨i, s, h1, h2, _⟩
  obtain ⟨t, h3, e⟩ := get_map h1
  cases e
  obtain ⟨x, _, e⟩ := get_map h3
  rw [← e] at h2
  cases h2
theorem frame_of (tb : TBs K H) (wm : WM W H) {ds : List D} {vs : List V} (r : RpL W K H ds vs) : SR W K H (vs.map some) ((ds.map S.d).map some) where
  tb := tb
  wm := wm
  len := by rw [List.length_map, List.length_map, List.length_map, r.length]
  sl := fun i s h => by
    obtain ⟨t, h3, e⟩ := get_map h
    cases e
    obtain ⟨x, h4, e⟩ := get_map h3
    subst e
    obtain ⟨v, h5, q⟩ := r.get h4
    exact ⟨v, by rw [List.getElem?_map, h5]; rfl, q⟩
  one := fun i j s t a h1 _ o1 _ h3 _ => absurd ⟨i, s, h1, o1, h3⟩ no_own
theorem callP_ok {rs : List RV} {vs : List V} {r : RV} {Q : VK} {n : Nat} {E : XK} (tb : TBs K H) (wm : WM W H) (g1 : Grow K W H W1 H1) (k1 : RVs W1 K H H1 rs vs) (hf : callP F rs = some r) (k : KQ W K H r Q) (hn : vs.length = n) : spF K mg n F E vs H1 Q := by
  refine ⟨hn, W1.filter (fun a => decide (a ∉ held rs vs)), (rs.map RV.view).map S.d, ?_⟩
  have sb : ∀ a ∈ W1.filter (fun a => decide (a ∉ held rs vs)), a ∈ W1 := fun a h => (List.mem_filter.mp h).1
  have nh : ∀ a ∈ held rs vs, a ∉ W1.filter (fun a => decide (a ∉ held rs vs)) := fun a h z => by
    have := (List.mem_filter.mp z).2
    simp at this
    exact this h
  have fa := frozen_args sb g1.wm k1 nh
  have wm0 : WM (W1.filter fun a => decide (a ∉ held rs vs)) H1 := fun a h => g1.wm a (sb a h)
  refine ⟨frame_of (g1.tb tb) wm0 fa, ?_⟩
  have em : (rs.map fun r => S.d r.view) = (rs.map RV.view).map S.d := by rw [List.map_map]; rfl
  unfold callP at hf
  rw [em] at hf
  generalize F ((rs.map RV.view).map S.d) = o at hf ⊢
  cases o with
  | stuck => cases hf
  | ex x e => cases hf
  | ok s e' =>
    have hf : (if (rs.all fun r => !r.lent) = true ∨ s.flat = true then some s.rv else none) = some r := hf
    split at hf
    rotate_left
    · cases hf
    rename_i hc
    cases hf
    intro v W' H' sr' x rs' fr'
    have kp : ∀ a o, H a = some o → nt o = true → H' a = some o := fun a o h m => x.keep a o (g1.keep a o h m) no_own m
    have kd : ∀ a, H' a = none → H a = none := fun a h => g1.dom a (x.dom a h)
    have sub : (rs.all fun r => !r.lent) = true → ∀ a ∈ W, a ∈ W' := fun hl a ha => by
      refine (x.tmp a (List.mem_filter.mpr ⟨g1.sub a ha, ?_⟩) no_own).1
      simp
      exact fun z => isSome_of_mut (wm a ha) (held_in k1 hl a z)
    have g : Grow K W H W H' := Grow.base (W' := W) ⟨kp, kd, fun _ => sr'.tb, fun _ h => h, fun _ h => .inl h, fun a h => by
      have q := wm a h
      cases z : H a with
      | none => rw [z] at q; exact q.elim
      | some o => rw [kp a o z (mut_nt (by rw [← z]; exact q)), ← z]; exact q⟩ wm
    cases s with
    | d y =>
      refine k v W H' g ?_
      show Rp W K H' y v
      rcases hc with hl | hfl
      · exact Rp.weak (sub hl) g.wm rs' sr'.wm
      · exact Rp.flat y hfl rs'
    | lst xs =>
      obtain ⟨a, us, rfl, q1, q2, q3⟩ := rs'
      have na := g1.fresh (fr' rfl a rfl).1
      have g2 : Grow K W H (a :: W) H' := ⟨kp, kd, fun _ => sr'.tb, fun b h => List.mem_cons_of_mem _ h, fun b h => by
        rcases List.mem_cons.mp h with rfl | h
        · exact .inr na
        · exact .inl h, fun b h => by
        rcases List.mem_cons.mp h with rfl | h
        · rw [q2]; trivial
        · exact g.wm b h⟩
      refine k _ (a :: W) H' g2 ⟨a, us, rfl, na, List.mem_cons_self, q2, ?_⟩
      rcases hc with hl | hfl
      · refine RpL.weak (fun b h => ?_) sr'.wm q3
        rcases List.mem_cons.mp h with rfl | h
        · exact q1
        · exact sub hl b h
      · exact RpL.flat xs hfl q3
end
section
variable {X : Cx} {k : Nat} {d : He.DefD} {ps ks : List Str} {F : List S → Out} {x : Str} {p pos : Pos} {a : Expr} {es : List Expr} {fs fk : FA} {kws : List Keyword}
theorem RVs.len {W : List Addr} {K : PySem.W.Frag} {H H' : Hp} : ∀ {rs : List RV} {vs : List V}, RVs W K H H' rs vs → rs.length = vs.length
  | [], vs, h => by cases (show vs = [] from h); rfl
  | r :: rs, _, ⟨v, us, e, _, h⟩ => by subst e; rw [List.length_cons, List.length_cons, RVs.len h]
theorem pp_fd (c : Cal X.prog X.w X.K X.mg X.base k d ps F) (hx : d.name = x) (hb : BindsA d ps) (hr : Room k X.A) (hgd : X.A.guards = some []) (ha : PPs X (a :: es) fs) (hlen : (a :: es).length = ps.length := by rfl) (hg : Gl X x := by rfl)
    (hdb : (x == ("__debug__" : Str)) = false := by decide) (he : starEach (a :: es) X.env = (false, eval a X.env) :: starEach es X.env := by rfl) (hpl : (backTo pos (starEach es X.env)).any (·.1) = false := by rfl)
    (hfl : ∀ e rs, fs e = some rs → rs.length = ps.length) : PP X (.Call (.Name x p) (a :: es) [] pos) (pFd F fs) := by
  obtain ⟨t, pa, ka⟩ := ha.run
  refine PP.of ⟨_, pe_fd c hx hb hr hgd takes_no pa hg hdb he hpl, fun W H σ e Q r sr hf kq => ?_⟩
  obtain ⟨rs, e1, hf⟩ := Option.bind_eq_some_iff.mp hf
  exact ka W H σ e _ rs sr e1 fun vs W1 H1 g1 k1 => callP_ok sr.tb sr.wm g1 k1 hf kq (by rw [← k1.len]; exact hfl e rs e1)
theorem aNil_len : ∀ e rs, aNil e = some rs → rs.length = 0 := fun e rs h => by cases h; rfl
theorem aCons_len {fa : FP} {fs : FA} {n : Nat} (h : ∀ e rs, fs e = some rs → rs.length = n) : ∀ e rs, aCons fa fs e = some rs → rs.length = n + 1 := fun e rs q => by
  obtain ⟨r, _, q⟩ := Option.bind_eq_some_iff.mp q
  obtain ⟨z, e1, q⟩ := Option.map_eq_some_iff.mp q
  subst q
  rw [List.length_cons, h e z e1]
/-- keywords -/
structure PKs (X : Cx) (kws : List Keyword) (f : FA) : Prop where
  pk : PK X kws (tA X.K f)
theorem kk_nil : PKs X [] aNil := ⟨⟨fun pos pins s σ H Q I ⟨W, e, rs, sr, hf, k⟩ => by cases hf; exact pk_nil.run pos pins s σ H Q I (k [] W H (.refl sr.wm) rfl)⟩⟩
theorem kk_cons {nm : Option Str} {v : Expr} {kpos : Pos} {fa : FP} (ha : PP X v fa) (hr : PKs X kws fk) : PKs X (⟨nm, v, kpos⟩ :: kws) (aCons fa fk) := by
  obtain ⟨t, p, ka⟩ := ha.run
  refine ⟨⟨fun pos pins s σ H Q I ⟨W, e, rs, sr, hf, k⟩ => (pk_cons p hr.pk).run pos pins s σ H Q I ?_⟩⟩
  obtain ⟨r1, e1, hf⟩ := Option.bind_eq_some_iff.mp hf
  obtain ⟨r2, e2, hf⟩ := Option.map_eq_some_iff.mp hf
  subst hf
  exact ka W H σ e _ r1 sr e1 fun v W1 H1 g1 k1 => ⟨W1, e, r2, g1.sr sr, e2, fun vs W' H' g2 k2 => k _ W' H' (g1.trans g2) ⟨v, vs, rfl, k1.grow g2 g1.wm, k2.back fun a h => g1.fresh h⟩⟩
structure GRel (g : {α : Type} → List α → List α → List α) : Prop where
  rv : ∀ {W : List Addr} {K : PySem.W.Frag} {H H' : Hp} {rs qs : List RV} {vs zs : List V}, RVs W K H H' rs vs → RVs W K H H' qs zs → RVs W K H H' (g rs qs) (g vs zs)
@[simp] def pFdK (F : List S → Out) (g : {α : Type} → List α → List α → List α) (n : Nat) (fs fk : FA) : FP := fun e => (fs e).bind fun rs => (fk e).bind fun qs => if (g rs qs).length = n then callP F (g rs qs) else none
theorem pp_fdK0 {g : {α : Type} → List α → List α → List α} (c : Cal X.prog X.w X.K X.mg X.base k d ps F) (hx : d.name = x) (hb : BindsK d ps ks g) (gv : GVals g) (gr : GRel g) (hr : Room k X.A) (hgd : X.A.guards = some []) (hw : PKs X kws fk) (hg : Gl X x := by rfl)
    (hall : (backToKw pos (keywordEach kws X.env)).all (·.1.isSome) = true := by rfl) (hks : (backToKw pos (keywordEach kws X.env)).filterMap (·.1) = ks := by rfl)
    (hdb : (x == ("__debug__" : Str)) = false := by decide) (hpl : ((backTo pos (starEach [] X.env)).any (·.1) || (backToKw pos (keywordEach kws X.env)).any (·.1.isNone)) = false := by rfl) :
    PP X (.Call (.Name x p) [] kws pos) (pFdK F g ps.length aNil fk) := by
  refine PP.of ⟨_, pe_fdK0 c hx hb gv hr hgd takes_no hw.pk hg hall hks hdb hpl, fun W H σ e Q r sr hf kq => ?_⟩
  obtain ⟨rs, e1, hf⟩ := Option.bind_eq_some_iff.mp hf
  cases e1
  obtain ⟨qs, e2, hf⟩ := Option.bind_eq_some_iff.mp hf
  split at hf
  rotate_left
  · cases hf
  rename_i hl
  show tA X.K fk σ H _
  refine ⟨W, e, qs, sr, e2, fun zs W1 H1 g1 k1 => ?_⟩
  have k2 := gr.rv (rs := []) (vs := []) (W := W1) (K := X.K) (H := H) (H' := H1) rfl k1
  exact callP_ok sr.tb sr.wm g1 k2 hf kq (by rw [← k2.len]; exact hl)
end
end DL

set_option maxHeartbeats 2000000
namespace DL
open PySem PySem.Spec PyProof.Rows L2

/-! ## calls that may change what the caller lends, or let an exception out -/
/-- an argument: frozen; the list of slot i, lent; a new list, given away -/
inductive AR where
  | fz (x : D) | bw (i : Nat) | ow (xs : List D)
inductive OA where
  | stuck | ok (as : List AR) (e : En) | ex (x : XD) (e : En)
@[simp] def OA.cons (a : AR) : OA → OA
  | .stuck => .stuck
  | .ok as e => .ok (a :: as) e
  | .ex x e => .ex x e
@[simp] def argS : List AR → En → Option (List S)
  | [], _ => some []
  | a :: as, e => (match a with
    | .fz x => some (S.d x)
    | .bw i => (match e[i]? with
      | some (some (.lst xs)) => some (S.lst xs)
      | _ => none)
    | .ow xs => some (S.lst xs)).bind fun s => (argS as e).map fun ss => s :: ss
@[simp] def bws : List AR → List Nat
  | [] => []
  | .bw i :: as => i :: bws as
  | _ :: as => bws as
@[simp] def ows : List AR → Nat
  | [] => 0
  | .ow _ :: as => ows as + 1
  | _ :: as => ows as
@[simp] def arOk (as : List AR) : Bool := decide ((bws as).Nodup) && decide (ows as ≤ 1)
@[simp] def putAt (i : Nat) (t : Option S) (e : En) : Option En := match t with
  | some (.lst xs) => some (e.set i (some (.lst xs)))
  | _ => none
@[simp] def putb : List AR → En → En → Option En
  | [], _, e => some e
  | a :: as, o, e => match o with
    | [] => none
    | t :: r => match a with
      | .bw i => (putAt i t e).bind (putb as r)
      | _ => putb as r e
theorem putAt_ok {i : Nat} {t : Option S} {e e2 : En} (h : putAt i t e = some e2) : ∃ xs, t = some (.lst xs) ∧ e2 = e.set i (some (.lst xs)) := by
  unfold putAt at h
  split at h
  · cases h; exact ⟨_, rfl, rfl⟩
  · cases h
@[simp] def callM (F : List S → Out) (as : List AR) (e : En) : Out := match argS as e with
  | none => .stuck
  | some ss => if arOk as = true then (match F ss with
    | .stuck => .stuck
    | .ok s o => (match putb as o e with
      | some e2 => .ok s e2
      | none => .stuck)
    | .ex x o => (match putb as o e with
      | some e2 => .ex x e2
      | none => .stuck)) else .stuck
/-- H0: ahead of the call's arguments -/
def ARok (H0 : Hp) (W : List Addr) (K : PySem.W.Frag) (H : Hp) (σ : St) (e : En) : AR → V → Prop
  | .fz d, v => Rp W K H d v
  | .bw i, v => σ[i]? = some (some v)
  | .ow xs, v => ∃ a vs, v = .ref a ∧ H0 a = none ∧ a ∈ W ∧ H a = some (.lst vs) ∧ RpL W K H xs vs ∧ ¬ Ow σ e a
def ARs (H0 : Hp) (W : List Addr) (K : PySem.W.Frag) (H : Hp) (σ : St) (e : En) : List AR → List V → Prop
  | [], vs => vs = []
  | a :: as, vs => ∃ v us, vs = v :: us ∧ ARok H0 W K H σ e a v ∧ ARs H0 W K H σ e as us
section
variable {W W1 W2 W' : List Addr} {K : PySem.W.Frag} {mg : Str → Option Value} {Wx : WX} {H0 H H1 H2 H' : Hp} {σ : St} {e e1 e2 o : En} {Q : VK} {F : List S → Out}
theorem ARok.go (x : EX W H σ e W1 H1 σ e1) (r : SR W K H σ e) : ∀ {a : AR} {v : V}, ARok H0 W K H σ e a v → ARok H0 W1 K H1 σ e1 a v
  | .fz d, v, h => Rp.mono (x.ex r) d h
  | .bw i, v, h => h
  | .ow xs, v, ⟨a, vs, ev, h0, h1, h2, h3, h4⟩ => let q := x.tmp a h1 h4; ⟨a, vs, ev, h0, q.1, x.keep a _ h2 h4 rfl, RpL.mono (x.ex r) xs h3, q.2⟩
theorem ARok.back (k : ∀ a, H a = none → H0 a = none) : ∀ {a : AR} {v : V}, ARok H W1 K H1 σ e1 a v → ARok H0 W1 K H1 σ e1 a v
  | .fz d, v, h => h
  | .bw i, v, h => h
  | .ow xs, v, ⟨a, vs, ev, h0, h⟩ => ⟨a, vs, ev, k a h0, h⟩
theorem ARs.back (k : ∀ a, H a = none → H0 a = none) : ∀ {as : List AR} {vs : List V}, ARs H W1 K H1 σ e1 as vs → ARs H0 W1 K H1 σ e1 as vs
  | [], _, h => h
  | a :: as, _, ⟨v, us, ev, h1, h2⟩ => ⟨v, us, ev, h1.back k, ARs.back k h2⟩
theorem ARs.len : ∀ {as : List AR} {vs : List V}, ARs H0 W K H σ e as vs → vs.length = as.length
  | [], _, h => by cases (show _ = [] from h); rfl
  | a :: as, _, ⟨v, us, ev, h1, h2⟩ => by subst ev; rw [List.length_cons, List.length_cons, ARs.len h2]
theorem ARs.at : ∀ {as : List AR} {vs : List V} {i : Nat} {a : AR}, ARs H0 W K H σ e as vs → as[i]? = some a → ∃ v, vs[i]? = some v ∧ ARok H0 W K H σ e a v
  | [], _, _, _, _, h => by simp at h
  | b :: as, _, 0, a, ⟨v, us, ev, h1, h2⟩, h => by subst ev; simp at h; subst h; exact ⟨v, rfl, h1⟩
  | b :: as, _, i + 1, a, ⟨v, us, ev, h1, h2⟩, h => by
    subst ev
    obtain ⟨u, q1, q2⟩ := ARs.at (i := i) h2 (by simpa using h)
    exact ⟨u, by simpa using q1, q2⟩
theorem argS_len : ∀ {as : List AR} {ss : List S}, argS as e = some ss → ss.length = as.length
  | [], _, h => by cases h; rfl
  | a :: as, ss, h => by
    obtain ⟨s, _, h⟩ := Option.bind_eq_some_iff.mp h
    obtain ⟨r, h1, h2⟩ := Option.map_eq_some_iff.mp h
    rw [← h2, List.length_cons, List.length_cons, argS_len h1]
theorem argS_at : ∀ {as : List AR} {ss : List S} {i : Nat} {a : AR}, argS as e = some ss → as[i]? = some a → (∃ x, a = .fz x ∧ ss[i]? = some (.d x)) ∨ (∃ j xs, a = .bw j ∧ e[j]? = some (some (.lst xs)) ∧ ss[i]? = some (.lst xs)) ∨ ∃ xs, a = .ow xs ∧ ss[i]? = some (.lst xs)
  | [], _, _, _, _, h => by simp at h
  | b :: as, ss, 0, a, h, q => by
    obtain ⟨s, h0, h⟩ := Option.bind_eq_some_iff.mp h
    obtain ⟨r, h1, h2⟩ := Option.map_eq_some_iff.mp h
    simp at q
    subst q h2
    cases b with
    | fz x => cases h0; exact .inl ⟨x, rfl, rfl⟩
    | ow x => cases h0; exact .inr (.inr ⟨x, rfl, rfl⟩)
    | bw j =>
      have h0 : (match e[j]? with | some (some (.lst xs)) => some (S.lst xs) | _ => none) = some s := h0
      split at h0
      · rename_i xs hx
        cases h0
        exact .inr (.inl ⟨j, xs, rfl, hx, rfl⟩)
      · cases h0
  | b :: as, ss, i + 1, a, h, q => by
    obtain ⟨s, h0, h⟩ := Option.bind_eq_some_iff.mp h
    obtain ⟨r, h1, h2⟩ := Option.map_eq_some_iff.mp h
    subst h2
    exact argS_at (i := i) h1 (by simpa using q)
theorem bws_inj : ∀ {as : List AR} {i j k : Nat}, (bws as).Nodup → as[i]? = some (.bw k) → as[j]? = some (.bw k) → i = j
  | [], _, _, _, _, h, _ => by simp at h
  | a :: as, 0, 0, _, _, _, _ => rfl
  | a :: as, 0, j + 1, k, n, h1, h2 => by
    simp at h1 h2
    subst h1
    have n : (k :: bws as).Nodup := n
    exact absurd (bw_mem h2) (List.nodup_cons.mp n).1
  | a :: as, i + 1, 0, k, n, h1, h2 => by
    simp at h1 h2
    subst h2
    have n : (k :: bws as).Nodup := n
    exact absurd (bw_mem h1) (List.nodup_cons.mp n).1
  | a :: as, i + 1, j + 1, k, n, h1, h2 => by
    have n2 : (bws as).Nodup := by
      cases a with
      | bw q => exact (List.nodup_cons.mp (show (q :: bws as).Nodup from n)).2
      | fz q => exact n
      | ow q => exact n
    rw [bws_inj (i := i) (j := j) n2 (by simpa using h1) (by simpa using h2)]
where bw_mem : ∀ {as : List AR} {i k : Nat}, as[i]? = some (.bw k) → k ∈ bws as
  | [], _, _, h => by simp at h
  | a :: as, 0, k, h => by simp at h; subst h; exact List.mem_cons_self
  | a :: as, i + 1, k, h => by
    have := bw_mem (as := as) (i := i) (k := k) (by simpa using h)
    cases a with
    | bw q => exact List.mem_cons_of_mem _ this
    | fz q => exact this
    | ow q => exact this
theorem ows_one : ∀ {as : List AR} {i j : Nat} {xs ys : List D}, ows as ≤ 1 → as[i]? = some (.ow xs) → as[j]? = some (.ow ys) → i = j
  | [], _, _, _, _, _, h, _ => by simp at h
  | a :: as, 0, 0, _, _, _, _, _ => rfl
  | a :: as, 0, j + 1, xs, ys, n, h1, h2 => by
    simp at h1 h2
    subst h1
    have n : ows as + 1 ≤ 1 := n
    have := ow_pos h2
    omega
  | a :: as, i + 1, 0, xs, ys, n, h1, h2 => by
    simp at h1 h2
    subst h2
    have n : ows as + 1 ≤ 1 := n
    have := ow_pos h1
    omega
  | a :: as, i + 1, j + 1, xs, ys, n, h1, h2 => by
    have n2 : ows as ≤ 1 := by
      cases a with
      | bw q => exact n
      | fz q => exact n
      | ow q => exact Nat.le_trans (Nat.le_succ _) (show ows as + 1 ≤ 1 from n)
    rw [ows_one (i := i) (j := j) n2 (by simpa using h1) (by simpa using h2)]
where ow_pos : ∀ {as : List AR} {i : Nat} {xs : List D}, as[i]? = some (.ow xs) → 0 < ows as
  | [], _, _, h => by simp at h
  | a :: as, 0, k, h => by simp at h; subst h; exact Nat.succ_pos _
  | a :: as, i + 1, k, h => by
    have := ow_pos (as := as) (i := i) (xs := k) (by simpa using h)
    cases a with
    | bw q => exact this
    | fz q => exact this
    | ow q => exact Nat.succ_pos _
theorem putb_len : ∀ {as : List AR} {o e e2 : En}, putb as o e = some e2 → e2.length = e.length
  | [], _, _, _, h => by cases h; rfl
  | a :: as, [], _, _, h => by cases h
  | a :: as, t :: r, e, e2, h => by
    cases a with
    | fz x => exact putb_len (as := as) h
    | ow x => exact putb_len (as := as) h
    | bw i =>
      obtain ⟨e3, h1, h2⟩ := Option.bind_eq_some_iff.mp (show (putAt i t e).bind (putb as r) = some e2 from h)
      obtain ⟨xs, _, rfl⟩ := putAt_ok h1
      rw [putb_len (as := as) h2, List.length_set]
theorem putb_at : ∀ {as : List AR} {o e e2 : En} {j : Nat} {t : S}, putb as o e = some e2 → e2[j]? = some (some t) →
    (∃ (k : Nat) (xs : List D), as[k]? = some (AR.bw j) ∧ t = S.lst xs ∧ o[k]? = some (some (S.lst xs))) ∨ (e[j]? = some (some t) ∧ ∀ k : Nat, as[k]? ≠ some (AR.bw j))
  | [], _, _, _, _, _, h, q => by cases h; exact .inr ⟨q, fun k => by simp⟩
  | a :: as, [], _, _, _, _, h, _ => by cases h
  | a :: as, u :: r, e, e2, j, t, h, q => by
    have up : ∀ {e : En}, (∀ i, a = .bw i → i ≠ j) → ((∃ (k : Nat) (xs : List D), as[k]? = some (AR.bw j) ∧ t = S.lst xs ∧ r[k]? = some (some (S.lst xs))) ∨ (e[j]? = some (some t) ∧ ∀ k : Nat, as[k]? ≠ some (AR.bw j))) →
        ((∃ (k : Nat) (xs : List D), (a :: as)[k]? = some (AR.bw j) ∧ t = S.lst xs ∧ (u :: r)[k]? = some (some (S.lst xs))) ∨ (e[j]? = some (some t) ∧ ∀ k : Nat, (a :: as)[k]? ≠ some (AR.bw j))) := by
      intro e hn z
      rcases z with ⟨k, xs, z1, z2, z3⟩ | ⟨z1, z2⟩
      · exact .inl ⟨k + 1, xs, by simpa using z1, z2, by simpa using z3⟩
      · refine .inr ⟨z1, fun k => ?_⟩
        cases k with
        | zero => intro w; simp at w; exact hn j w rfl
        | succ k => simpa using z2 k
    cases a with
    | fz x => exact up (fun i z => nomatch z) (putb_at (as := as) h q)
    | ow x => exact up (fun i z => nomatch z) (putb_at (as := as) h q)
    | bw i =>
      obtain ⟨e3, h1, h2⟩ := Option.bind_eq_some_iff.mp (show (putAt i u e).bind (putb as r) = some e2 from h)
      obtain ⟨xs, rfl, rfl⟩ := putAt_ok h1
      have z := putb_at (as := as) h2 q
      by_cases hij : i = j
      · subst hij
        rcases z with ⟨k, ys, z1, z2, z3⟩ | ⟨z1, z2⟩
        · exact .inl ⟨k + 1, ys, by simpa using z1, z2, by simpa using z3⟩
        · by_cases hl : i < e.length
          · rw [List.getElem?_set_self hl] at z1
            cases z1
            exact .inl ⟨0, xs, rfl, rfl, rfl⟩
          · rw [List.getElem?_eq_none (by simpa using hl)] at z1
            cases z1
      · rw [List.getElem?_set_ne hij] at z
        exact up (fun _ w => by cases w; exact hij) z
/-- behind the callee: the caller's frame again -/
theorem call_ok {as : List AR} {vs : List V} {n : Nat} (wm : WM W H) (sr1 : SR W1 K H1 σ e1) (x1 : EX W H σ e W1 H1 σ e1) (ar : ARs H W1 K H1 σ e1 as vs) (hn : as.length = n)
    (h : OutK K mg Wx W H σ e Q (callM F as e1)) : spF K mg n F (fun c d H' => Wx c d σ H') vs H1 Q := by
  refine ⟨by rw [ar.len, hn], W1, ?_⟩
  unfold callM at h
  cases hs : argS as e1 with
  | none => rw [hs] at h; exact h.elim
  | some ss =>
    rw [hs] at h
    have h : OutK K mg Wx W H σ e Q (if arOk as = true then (match F ss with
      | .stuck => .stuck
      | .ok s o => (match putb as o e1 with
        | some e2 => .ok s e2
        | none => .stuck)
      | .ex x o => (match putb as o e1 with
        | some e2 => .ex x e2
        | none => .stuck)) else .stuck) := h
    split at h
    rotate_left
    · exact h.elim
    rename_i hok
    obtain ⟨hb1, hb2⟩ := Bool.and_eq_true_iff.mp (show (decide ((bws as).Nodup) && decide (ows as ≤ 1)) = true from hok)
    have nd := of_decide_eq_true hb1
    have n1 := of_decide_eq_true hb2
    have hlen : ss.length = vs.length := by rw [argS_len hs, ar.len]
    -- what the callee's frame owns
    have own_at : ∀ {i : Nat} {s : S} {a : Addr}, (ss.map some)[i]? = some (some s) → s.own = true → (vs.map some)[i]? = some (some (.ref a)) →
        (∃ j xs, as[i]? = some (.bw j) ∧ e1[j]? = some (some (.lst xs)) ∧ σ[j]? = some (some (.ref a)) ∧ s = .lst xs) ∨ (∃ xs, as[i]? = some (.ow xs) ∧ H a = none ∧ ¬ Ow σ e1 a ∧ s = .lst xs) := by
      intro i s a h1 h2 h3
      obtain ⟨s', q1, q2⟩ := get_map h1
      cases q2
      obtain ⟨v', p1, p2⟩ := get_map h3
      cases p2
      have hi : i < as.length := by rw [← argS_len hs]; exact (List.getElem?_eq_some_iff.mp q1).1
      obtain ⟨ar', hai⟩ : ∃ z, as[i]? = some z := ⟨as[i], List.getElem?_eq_getElem hi⟩
      obtain ⟨v2, w1, w2⟩ := ar.at hai
      rw [p1] at w1
      cases w1
      rcases argS_at hs hai with ⟨x, rfl, y⟩ | ⟨j, xs, rfl, y1, y2⟩ | ⟨xs, rfl, y⟩
      · rw [q1] at y; cases y; cases h2
      · rw [q1] at y2; cases y2
        exact .inl ⟨j, xs, hai, y1, w2, rfl⟩
      · rw [q1] at y; cases y
        obtain ⟨b, us, eb, z0, z1, z2, z3, z4⟩ := w2
        cases eb
        exact .inr ⟨xs, hai, z0, z4, rfl⟩
    have r0 : SR W1 K H1 (vs.map some) (ss.map some) := by
      refine ⟨sr1.tb, sr1.wm, by rw [List.length_map, List.length_map, hlen], fun i s q => ?_, fun i j s t a q1 q2 o1 o2 p1 p2 => ?_⟩
      · obtain ⟨s', q1, q2⟩ := get_map q
        cases q2
        have hi : i < as.length := by rw [← argS_len hs]; exact (List.getElem?_eq_some_iff.mp q1).1
        obtain ⟨ar', hai⟩ : ∃ z, as[i]? = some z := ⟨as[i], List.getElem?_eq_getElem hi⟩
        obtain ⟨v2, w1, w2⟩ := ar.at hai
        refine ⟨v2, by rw [List.getElem?_map, w1]; rfl, ?_⟩
        rcases argS_at hs hai with ⟨x, rfl, y⟩ | ⟨j, xs, rfl, y1, y2⟩ | ⟨xs, rfl, y⟩
        · rw [q1] at y; cases y; exact w2
        · rw [q1] at y2; cases y2
          obtain ⟨v3, u1, u2⟩ := sr1.sl j _ y1
          rw [show σ[j]? = some (some v2) from w2] at u1
          cases u1
          exact u2
        · rw [q1] at y; cases y
          obtain ⟨b, us, eb, z0, z1, z2, z3, z4⟩ := w2
          exact ⟨b, us, eb, z1, z2, z3⟩
      · rcases own_at q1 o1 p1 with ⟨j1, xs1, a1, b1, c1, _⟩ | ⟨xs1, a1, b1, c1, _⟩
        · rcases own_at q2 o2 p2 with ⟨j2, xs2, a2, b2, c2, _⟩ | ⟨xs2, a2, b2, c2, _⟩
          · have := sr1.one j1 j2 _ _ a b1 b2 rfl rfl c1 c2
            subst this
            exact bws_inj nd a1 a2
          · exact absurd ⟨j1, _, b1, rfl, c1⟩ c2
        · rcases own_at q2 o2 p2 with ⟨j2, xs2, a2, b2, c2, _⟩ | ⟨xs2, a2, b2, c2, _⟩
          · exact absurd ⟨j2, _, b2, rfl, c2⟩ c1
          · exact ows_one n1 a1 a2
    refine ⟨ss, r0, ?_⟩
    have not_own : ∀ {a : Addr} {oo : HO}, H a = some oo → ¬ Ow σ e a → ¬ Ow (vs.map some) (ss.map some) a := by
      rintro a oo ha nn ⟨i, s, z1, z2, z3⟩
      rcases own_at z1 z2 z3 with ⟨j, xs, _, y1, y2, _⟩ | ⟨xs, _, y1, _⟩
      · rcases x1.sub a ⟨j, _, y1, rfl, y2⟩ with w | w
        · exact nn w
        · rw [ha] at w; cases w
      · rw [ha] at y1; cases y1
    -- the two ends alike
    have key : ∀ {o : En} {e2 : En} {W' : List Addr} {H' : Hp}, putb as o e1 = some e2 → SR W' K H' (vs.map some) o → EX W1 H1 (vs.map some) (ss.map some) W' H' (vs.map some) o →
        SR W' K H' σ e2 ∧ EX W H σ e W' H' σ e2 ∧ ∀ a, Ow σ e2 a → Ow σ e1 a := by
      intro o e2 W' H' hp sr' x'
      have own1 : ∀ {j : Nat} {t : S}, e2[j]? = some (some t) → t.own = true → ∃ ys, e1[j]? = some (some (.lst ys)) := by
        intro j t q1 q2
        rcases putb_at hp q1 with ⟨k, xs, z1, z2, z3⟩ | ⟨z1, _⟩
        · rcases argS_at hs z1 with ⟨x, y, _⟩ | ⟨j', ys, y, y1, _⟩ | ⟨ys, y, _⟩
          · cases y
          · cases y; exact ⟨ys, y1⟩
          · cases y
        · obtain ⟨ys, rfl⟩ := own_lst q2
          exact ⟨ys, z1⟩
      have ow21 : ∀ a, Ow σ e2 a → Ow σ e1 a := by
        rintro a ⟨j, t, q1, q2, q3⟩
        obtain ⟨ys, y⟩ := own1 q1 q2
        exact ⟨j, _, y, rfl, q3⟩
      refine ⟨⟨sr'.tb, sr'.wm, by rw [putb_len hp, sr1.len], fun j t q => ?_, fun i j s t a q1 q2 o1 o2 p1 p2 => ?_⟩, ⟨fun a oo ha nn nm => ?_, fun a oo ha na => ?_, fun a ha nn => ?_, fun a ha => x1.sub a (ow21 a ha), fun a ha => x1.dom a (x'.dom a ha)⟩, ow21⟩
      · rcases putb_at hp q with ⟨k, xs, z1, rfl, z3⟩ | ⟨z1, z2⟩
        · obtain ⟨v, w1, w2⟩ := ar.at z1
          obtain ⟨v', u1, u2⟩ := sr'.sl k _ z3
          rw [List.getElem?_map, w1] at u1
          cases u1
          exact ⟨v, w2, u2⟩
        · obtain ⟨v, w1, w2⟩ := sr1.sl j t z1
          refine ⟨v, w1, ?_⟩
          cases t with
          | d y => exact Rp.mono (x'.ex r0) y w2
          | lst ys =>
            obtain ⟨a, us, rfl, p1, p2, p3⟩ := w2
            have na : ¬ Ow (vs.map some) (ss.map some) a := by
              rintro ⟨i, s, y1, y2, y3⟩
              rcases own_at y1 y2 y3 with ⟨j', xs, u0, u1, u2, _⟩ | ⟨xs, _, _, u1, _⟩
              · have := sr1.one j' j _ _ a u1 z1 rfl rfl u2 w1
                subst this
                exact z2 i u0
              · exact u1 ⟨j, _, z1, rfl, w1⟩
            exact ⟨a, us, rfl, (x'.tmp a p1 na).1, x'.keep a _ p2 na rfl, RpL.mono (x'.ex r0) ys p3⟩
      · obtain ⟨ys, y1⟩ := own1 q1 o1
        obtain ⟨zs, y2⟩ := own1 q2 o2
        exact sr1.one i j _ _ a y1 y2 rfl rfl p1 p2
      · exact x'.keep a oo (x1.keep a oo ha nn nm) (not_own ha nn) nm
      · have n1 := x1.frz a oo ha na
        cases hh : H1 a with
        | none => rw [x1.dom a hh] at ha; cases ha
        | some o1 => exact x'.frz a o1 hh n1
      · obtain ⟨m1, m2⟩ := x1.tmp a ha nn
        have hne := isSome_of_mut (wm a ha)
        cases hh : H a with
        | none => exact absurd hh hne
        | some oo => exact ⟨(x'.tmp a m1 (not_own hh nn)).1, fun z => m2 (ow21 a z)⟩
    revert h
    generalize F ss = r
    intro h
    cases r with
    | stuck => exact h.elim
    | ok s o =>
      have h : OutK K mg Wx W H σ e Q (match putb as o e1 with | some e2 => .ok s e2 | none => .stuck) := h
      cases hp : putb as o e1 with
      | none => rw [hp] at h; exact h.elim
      | some e2 =>
        rw [hp] at h
        intro v W' H' sr' x' rs fr
        obtain ⟨s2, x2, ow⟩ := key hp sr' x'
        exact h v W' H' s2 x2 rs fun so a ea => ⟨x1.dom a (fr so a ea).1, fun z => sr1.thr (sr1.ow (ow a z)) (fr so a ea).1⟩
    | ex y o =>
      have h : OutK K mg Wx W H σ e Q (match putb as o e1 with | some e2 => .ex y e2 | none => .stuck) := h
      cases hp : putb as o e1 with
      | none => rw [hp] at h; exact h.elim
      | some e2 =>
        rw [hp] at h
        intro c d W' H' sr' x' rx
        obtain ⟨s2, x2, ow⟩ := key hp sr' x'
        exact h c d W' H' s2 x2 rx
end
def OAK (K : PySem.W.Frag) (mg : Str → Option Value) (Wx : WX) (W : List Addr) (H : Hp) (σ : St) (e : En) (Q : List V → Hp → Prop) : OA → Prop
  | .stuck => False
  | .ok as e' => ∀ vs W' H', SR W' K H' σ e' → EX W H σ e W' H' σ e' → ARs H W' K H' σ e' as vs → Q vs H'
  | .ex x e' => ∀ cls d W' H', SR W' K H' σ e' → EX W H σ e W' H' σ e' → XR mg W' K H' x cls d → Wx cls d σ H'
abbrev FAR := En → OA
def tAr (K : PySem.W.Frag) (mg : Str → Option Value) (Wx : WX) (f : FAR) : TA := fun σ H Q => ∃ (W : List Addr) (e : En), SR W K H σ e ∧ OAK K mg Wx W H σ e Q (f e)
structure ARJ (X : Cx) (Wx : WX) (es : List Expr) (f : FAR) : Prop where
  pa : PA X es (tAr X.K X.mg Wx f)
theorem ARJ.of {X : Cx} {Wx : WX} {es : List Expr} {f : FAR} (h : ∃ t : TA, PA X es t ∧ ∀ (W : List Addr) (H : Hp) (σ : St) (e : En) (Q : List V → Hp → Prop), SR W X.K H σ e → OAK X.K X.mg Wx W H σ e Q (f e) → t σ H Q) : ARJ X Wx es f :=
  let ⟨_, p, k⟩ := h; ⟨⟨fun pos pins s σ H Q I ⟨W, e, a, b⟩ => p.run pos pins s σ H Q I (k W H σ e Q a b)⟩⟩
theorem ARJ.run {X : Cx} {Wx : WX} {es : List Expr} {f : FAR} (h : ARJ X Wx es f) : ∃ t : TA, PA X es t ∧ ∀ (W : List Addr) (H : Hp) (σ : St) (e : En) (Q : List V → Hp → Prop), SR W X.K H σ e → OAK X.K X.mg Wx W H σ e Q (f e) → t σ H Q :=
  ⟨_, h.pa, fun W H σ e Q a b => ⟨W, e, a, b⟩⟩
section
variable {X : Cx} {Wx : WX} {k : Nat} {d : He.DefD} {ps : List Str} {F : List S → Out} {x : Str} {p pos : Pos} {a : Expr} {es : List Expr} {fa : FM} {fs : FAR}
theorem OAK.go {W W1 : List Addr} {K : PySem.W.Frag} {mg : Str → Option Value} {H H1 : Hp} {σ : St} {e e1 : En} {Q : List V → Hp → Prop} (x : EX W H σ e W1 H1 σ e1) : ∀ {o : OA}, OAK K mg Wx W H σ e Q o → OAK K mg Wx W1 H1 σ e1 Q o
  | .stuck, h => h
  | .ok as e', h => fun vs W' H' sr y r => h vs W' H' sr (x.trans y) (r.back x.dom)
  | .ex z e', h => fun c d W' H' sr y r => h c d W' H' sr (x.trans y) r
theorem OAK.cons {W W1 : List Addr} {K : PySem.W.Frag} {mg : Str → Option Value} {H H1 : Hp} {σ : St} {e e1 : En} {Q : List V → Hp → Prop} {b : AR} {v : V} (sr : SR W1 K H1 σ e1) (x : EX W H σ e W1 H1 σ e1) (r : ARok H W1 K H1 σ e1 b v) : ∀ {o : OA}, OAK K mg Wx W H σ e Q (OA.cons b o) → OAK K mg Wx W1 H1 σ e1 (fun us H' => Q (v :: us) H') o
  | .stuck, h => h
  | .ex _ _, h => fun c d W' H' sr' y r' => h c d W' H' sr' (x.trans y) r'
  | .ok ds e', h => fun us W' H' sr' y r' => h (v :: us) W' H' sr' (x.trans y) ⟨v, us, rfl, r.go y sr, r'.back x.dom⟩
@[simp] def arNil : FAR := fun e => .ok [] e
theorem ar_nil : ARJ X Wx [] arNil := ARJ.of ⟨_, pa_nil, fun W H σ e Q sr h => h [] W H sr .refl rfl⟩
/-- slot i's list is lent -/
@[simp] def arBw (i : Nat) (fs : FAR) : FAR := fun e => match e[i]? with
  | some (some (.lst _)) => OA.cons (.bw i) (fs e)
  | _ => .stuck
theorem ar_bw (i : Nat) {y : Str} {py : Pos} (hr : ARJ X Wx es fs) (hN : X.N[i]? = some y := by rfl) (hv : Vis X.env.scope y := by first | exact Or.inl rfl | exact Or.inr (Or.inl rfl) | exact Or.inr (Or.inr rfl)) (hd : (y == ("__debug__" : Str)) = false := by decide)
    (hcd : (y == ("__classdict__" : Str)) = false := by decide) (hs : starEach (.Name y py :: es) X.env = (false, eval (.Name y py) X.env) :: starEach es X.env := by rfl) : ARJ X Wx (.Name y py :: es) (arBw i fs) := by
  obtain ⟨u, p', kb⟩ := hr.run
  refine ARJ.of ⟨_, pa_cons (pe_var hN hv hd hcd) p' hs, fun W H σ e Q sr h => ?_⟩
  unfold arBw at h
  split at h
  · rename_i xs hx
    obtain ⟨v, h1, h2⟩ := sr.sl i _ hx
    exact ⟨v, h1, kb W H σ e _ sr (OAK.cons (b := .bw i) sr .refl h1 h)⟩
  · exact h.elim
@[simp] def Out.arF (o : Out) (fs : FAR) : OA := match o with
  | .stuck => .stuck
  | .ok s e => OA.cons (.fz s.view) (fs e)
  | .ex x e => .ex x e
@[simp] def arFz (fa : FM) (fs : FAR) : FAR := fun e => (fa e).arF fs
theorem ar_fz (ha : PM X Wx a fa) (hr : ARJ X Wx es fs) (hs : starEach (a :: es) X.env = (false, eval a X.env) :: starEach es X.env := by rfl) : ARJ X Wx (a :: es) (arFz fa fs) := by
  obtain ⟨t, p, ka⟩ := ha.run
  obtain ⟨u, p', kb⟩ := hr.run
  refine ARJ.of ⟨_, pa_cons p p' hs, fun W H σ e Q sr h => ka W H σ e _ sr ?_⟩
  unfold arFz at h
  revert h
  generalize fa e = o
  intro h
  refine DK.out sr.wm ?_
  cases o with
  | stuck => exact h
  | ex x e1 => exact h
  | ok s e1 =>
    intro v W1 H1 sr1 x r
    exact kb W1 H1 σ e1 _ sr1 (OAK.cons (b := .fz s.view) sr1 x r h)
@[simp] def Out.arO (o : Out) (fs : FAR) : OA := match o with
  | .ok (.lst xs) e => OA.cons (.ow xs) (fs e)
  | .ex x e => .ex x e
  | _ => .stuck
@[simp] def arOw (fa : FM) (fs : FAR) : FAR := fun e => (fa e).arO fs
theorem ar_ow (ha : PM X Wx a fa) (hr : ARJ X Wx es fs) (hs : starEach (a :: es) X.env = (false, eval a X.env) :: starEach es X.env := by rfl) : ARJ X Wx (a :: es) (arOw fa fs) := by
  obtain ⟨t, p, ka⟩ := ha.run
  obtain ⟨u, p', kb⟩ := hr.run
  refine ARJ.of ⟨_, pa_cons p p' hs, fun W H σ e Q sr h => ka W H σ e _ sr ?_⟩
  unfold arOw at h
  revert h
  generalize fa e = o
  intro h
  cases o with
  | stuck => exact h
  | ex x e1 => exact h
  | ok s e1 =>
    cases s with
    | d y => exact h.elim
    | lst xs =>
      intro v W1 H1 sr1 x r fr
      obtain ⟨b, us, rfl, q1, q2, q3⟩ := r
      exact kb W1 H1 σ e1 _ sr1 (OAK.cons (b := .ow xs) sr1 x ⟨b, us, rfl, (fr rfl b rfl).1, q1, q2, q3, (fr rfl b rfl).2⟩ h)
@[simp] def OA.bind (o : OA) (f : List AR → En → Out) : Out := match o with
  | .stuck => .stuck
  | .ok as e => f as e
  | .ex x e => .ex x e
@[simp] def mFd (n : Nat) (F : List S → Out) (fs : FAR) : FM := fun e => (fs e).bind fun as e1 => if as.length = n then callM F as e1 else .stuck
theorem pm_fd (c : Cal X.prog X.w X.K X.mg X.base k d ps F) (hx : d.name = x) (hb : BindsA d ps) (hr : Room k X.A) (hgd : X.A.guards = some []) (tk : Takes X Wx) (ha : ARJ X Wx (a :: es) fs) (hg : Gl X x := by rfl)
    (hdb : (x == ("__debug__" : Str)) = false := by decide) (he : starEach (a :: es) X.env = (false, eval a X.env) :: starEach es X.env := by rfl) (hpl : (backTo pos (starEach es X.env)).any (·.1) = false := by rfl) :
    PM X Wx (.Call (.Name x p) (a :: es) [] pos) (mFd ps.length F fs) := by
  obtain ⟨t, pa, ka⟩ := ha.run
  refine PM.of ⟨_, pe_fd c hx hb hr hgd tk pa hg hdb he hpl, fun W H σ e Q sr h => ka W H σ e _ sr ?_⟩
  unfold mFd at h
  revert h
  generalize fs e = o
  intro h
  cases o with
  | stuck => exact h
  | ex x e1 => exact h
  | ok as e1 =>
    intro vs W1 H1 sr1 x ar
    have h : OutK X.K X.mg Wx W H σ e Q (if as.length = ps.length then callM F as e1 else .stuck) := h
    split at h
    · rename_i hn
      exact call_ok sr.wm sr1 x ar hn h
    · exact h.elim
end
end DL

set_option maxHeartbeats 2000000
namespace DL
open PySem PySem.Spec PyProof.Rows L2

/-! ## lists that a slot owns -/
section
variable {W W' W1 : List Addr} {K : PySem.W.Frag} {mg : Str → Option Value} {Wx : WX} {H H' H1 : Hp} {σ σ1 σ' : St} {e e1 e' : En} {Q : VK}
theorem SR.hit (r : SR W K H σ e) {i : Nat} {xs : List D} (h : e[i]? = some (some (.lst xs))) : ∃ a vs, σ[i]? = some (some (.ref a)) ∧ a ∈ W ∧ H a = some (.lst vs) ∧ RpL W K H xs vs := by
  obtain ⟨v, h1, a, vs, rfl, h2, h3, h4⟩ := r.sl i _ h
  exact ⟨a, vs, h1, h2, h3, h4⟩
/-- slot i's list gets other contents -/
theorem SR.setL (r : SR W K H σ e) {i : Nat} {xs ys : List D} {a : Addr} {us : List V} (h : e[i]? = some (some (.lst xs))) (ha : σ[i]? = some (some (.ref a))) (hw : a ∈ W) (hy : RpL W K H ys us) :
    SR W K (upd H a (.lst us)) σ (e.set i (some (.lst ys))) ∧ EX W H σ e W (upd H a (.lst us)) σ (e.set i (some (.lst ys))) := by
  have hl : i < e.length := (List.getElem?_eq_some_iff.mp h).1
  have ow : Ow σ e a := ⟨i, _, h, rfl, ha⟩
  have x : Ex W H W (upd H a (.lst us)) := ⟨r.wm, fun b o hb n _ => ⟨by rw [upd_ne fun (z : b = a) => n (by rw [z]; exact hw)]; exact hb, n⟩⟩
  have back : ∀ {j : Nat} {s : S}, (e.set i (some (S.lst ys)))[j]? = some (some s) → (i = j ∧ s = .lst ys) ∨ (i ≠ j ∧ e[j]? = some (some s)) := by
    intro j s q
    by_cases z : i = j
    · subst z
      rw [List.getElem?_set_self hl] at q
      cases q
      exact .inl ⟨rfl, rfl⟩
    · rw [List.getElem?_set_ne z] at q
      exact .inr ⟨z, q⟩
  have owb : ∀ b, Ow σ (e.set i (some (S.lst ys))) b → Ow σ e b := by
    rintro b ⟨j, s, q1, q2, q3⟩
    rcases back q1 with ⟨rfl, _⟩ | ⟨_, q⟩
    · exact ⟨i, _, h, rfl, q3⟩
    · exact ⟨j, s, q, q2, q3⟩
  obtain ⟨v0, e0, b0, vs0, z0, _, h0, _⟩ := r.sl i _ h
  rw [ha] at e0
  cases e0
  cases z0
  refine ⟨⟨r.tb.put h0 rfl fun _ => codeO_lst, fun b hb => ?_, by rw [List.length_set, r.len], fun j s q => ?_, fun j k s t b q1 q2 o1 o2 p1 p2 => ?_⟩, ⟨fun b o hb n _ => ?_, fun _ _ _ n => n, fun b hb n => ⟨hb, fun z => n (owb b z)⟩, fun b z => .inl (owb b z), fun b hb => ?_⟩⟩
  · by_cases z : b = a
    · subst z; rw [upd_same]; trivial
    · rw [upd_ne z]; exact r.wm b hb
  · rcases back q with ⟨rfl, rfl⟩ | ⟨z, q⟩
    · exact ⟨_, ha, a, us, rfl, hw, upd_same, RpL.mono x ys hy⟩
    · obtain ⟨v, h1, h2⟩ := r.sl j s q
      refine ⟨v, h1, ?_⟩
      cases s with
      | d y => exact Rp.mono x y h2
      | lst zs =>
        obtain ⟨b, vs, rfl, p1, p2, p3⟩ := h2
        refine ⟨b, vs, rfl, p1, ?_, RpL.mono x zs p3⟩
        rw [upd_ne fun (w : b = a) => z (r.one i j _ _ a h q rfl rfl ha (by rw [← w]; exact h1))]
        exact p2
  · rcases back q1 with ⟨rfl, rfl⟩ | ⟨z1, q1⟩
    · rcases back q2 with ⟨rfl, rfl⟩ | ⟨z2, q2⟩
      · rfl
      · exact r.one i k _ _ b h q2 rfl o2 p1 p2
    · rcases back q2 with ⟨rfl, rfl⟩ | ⟨z2, q2⟩
      · exact r.one j i _ _ b q1 h o1 rfl p1 p2
      · exact r.one j k _ _ b q1 q2 o1 o2 p1 p2
  · rw [upd_ne fun (z : b = a) => n (by rw [z]; exact ow)]; exact hb
  · cases q : H b with
    | none => rfl
    | some o =>
      by_cases z : b = a
      · rw [z, upd_same] at hb; cases hb
      · rw [upd_ne z, q] at hb; cases hb
/-- .. and is left by name -/
theorem OutK.at (x : SR W1 K H1 σ e1 ∧ EX W H σ e W1 H1 σ e1) {s : D} {v : V} (r : Rp W1 K H1 s v) (h : OutK K mg Wx W H σ e Q (.ok (.d s) e1)) : Q v H1 := h v W1 H1 x.1 x.2 r fun z => nomatch z
end
section
variable {X : Cx} {Wx : WX} {a b : Expr} {fa fb : FM} {x : Str} {px apos cpos pos : Pos}
/-- a change of slot i's list by a value: what it answers, what it leaves -/
@[simp] def chg (i : Nat) (g : List D → D → Option (D × List D)) (d : D) (e : En) : Out := match e[i]? with
  | some (some (.lst xs)) => (match g xs d with
    | some (y, ys) => .ok (.d y) (e.set i (some (.lst ys)))
    | none => .stuck)
  | _ => .stuck
@[simp] def isL (i : Nat) (e : En) : Bool := match e[i]? with
  | some (some (.lst _)) => true
  | _ => false
@[simp] def mMt (i : Nat) (g : List D → D → Option (D × List D)) (fa : FM) : FM := fun e => if isL i e = true then (fa e).bind (chg i g) else .stuck
structure MtL (X : Cx) (id : String) (g : List D → D → Option (D × List D)) : Prop where
  run : ∃ r : V → List V → Hp → VK → Prop, MtR X id r ∧ ∀ (W : List Addr) (H : Hp) (l : Addr) (xs ys : List D) (d y : D) (vs : List V) (v : V) (Q : VK), WM W H → H l = some (.lst vs) → l ∈ W → RpL W X.K H xs vs → Rp W X.K H d v → g xs d = some (y, ys) →
    (∀ u us, Rp W X.K H y u → RpL W X.K H ys us → Q u (upd H l (.lst us))) → r (.ref l) [v] H Q
theorem pm_mt {id : String} {m : Str} {g : List D → D → Option (D × List D)} (i : Nat) (ho : MtL X id g) (slot : Slot "list" m id) (hty : typeOf (.builtin id) = pure (.type "method_descriptor")) (ha : PM X Wx a fa) (hN : X.N[i]? = some x := by rfl) (hv : Vis X.env.scope x := by first | exact Or.inl rfl | exact Or.inr (Or.inl rfl) | exact Or.inr (Or.inr rfl))
    (hd : (x == ("__debug__" : Str)) = false := by decide) (hcd : (x == ("__classdict__" : Str)) = false := by decide)
    (hbase : attributeBase (.Name x px) m X.env (eval (.Name x px) X.env) = eval (.Name x px) X.env := by rfl)
    (hfew : ((backTo cpos (starEach [a] X.env)).all (fun x => !x.1) && (backToKw cpos (keywordEach [] X.env)).all (fun x => x.1.isSome) && decide (([a] : List Expr).length + ([] : List Keyword).length + (if ([] : List Keyword).isEmpty then 0 else 1) < 30)) = true := by rfl)
    (hline : (apos.endLine == cpos.line) = true := by rfl) (hs : starEach [a] X.env = (false, eval a X.env) :: starEach [] X.env := by rfl) (hplain : (backTo cpos (starEach [] X.env)).any (·.1) = false := by rfl) :
    PM X Wx (.Call (.Attribute (.Name x px) m apos) [a] [] cpos) (mMt i g fa) := by
  obtain ⟨rl, h1, h2⟩ := ho.run
  obtain ⟨t, p, ka⟩ := ha.run
  refine PM.of ⟨_, pe_bm F.plainAttrs_list slot hty h1 (pe_var hN hv hd hcd) (pa_cons p pa_nil hs) hbase hfew hline hs hplain, fun W H σ e Q sr h => ?_⟩
  unfold mMt at h
  split at h
  rotate_left
  · exact h.elim
  rename_i hl
  unfold isL at hl
  split at hl
  rotate_left
  · cases hl
  rename_i xs0 hx0
  obtain ⟨l, vs0, e1, e2, e3, e4⟩ := sr.hit hx0
  refine ⟨_, e1, .inl ⟨rfl, vs0, .of e3⟩, ?_⟩
  refine ka W H σ e _ sr (DK.bind sr.wm h fun d v e' W1 H1 sr1 x1 r1 hc => ?_)
  show rl _ [v] H1 Q
  unfold chg at hc
  split at hc
  rotate_left
  · exact hc.elim
  rename_i xs hx
  split at hc
  rotate_left
  · exact hc.elim
  rename_i y ys hg
  obtain ⟨l', vs, q1, q2, q3, q4⟩ := sr1.hit hx
  rw [e1] at q1
  cases q1
  exact h2 W1 H1 l xs ys d y vs v Q sr1.wm q3 q2 q4 r1 hg fun u us ru rus => OutK.at (sr1.setL hx e1 q2 rus) (Rp.mono (EX.ex (sr1.setL hx e1 q2 rus).2 sr1) y ru) hc
@[simp] def gApp (xs : List D) (d : D) : Option (D × List D) := if xs.length < SZ then some (.non, xs ++ [d]) else none
theorem l_append : MtL X "list.append" gApp := by
  refine ⟨_, mt_append, fun W H l xs ys d y vs v Q wm hl hw rx rd hg k => ?_⟩
  unfold gApp at hg
  split at hg
  · rename_i hz
    cases hg
    exact ⟨l, vs, v, rfl, rfl, hl, by rw [SZ_eq, ← rx.length]; exact hz, k _ _ rfl (rx.append (.one rd))⟩
  · cases hg
@[simp] def gExt (xs : List D) (d : D) : Option (D × List D) := match d with
  | .lst ys => if xs.length + ys.length ≤ SZ then some (.non, xs ++ ys) else none
  | _ => none
theorem l_extend : MtL X "list.extend" gExt := by
  refine ⟨_, mt_extend, fun W H l xs ys d y vs v Q wm hl hw rx rd hg k => ?_⟩
  unfold gExt at hg
  split at hg
  · split at hg
    · rename_i zs hz
      cases hg
      obtain ⟨b, us, rfl, q1, q2⟩ := rd
      exact ⟨l, b, vs, us, rfl, rfl, hl, q1.1, by rw [SZ_eq, ← rx.length, ← q2.length]; exact hz, k _ _ rfl (rx.append q2)⟩
    · cases hg
  · cases hg
@[simp] def gPopAt (xs : List D) (d : D) : Option (D × List D) := match d with
  | .int i => if -(2 ^ 63) ≤ i ∧ i < 2 ^ 63 then (seqIndex? i xs.length).bind fun k => (xs[k]?).map fun y => (y, xs.eraseIdx k) else none
  | _ => none
theorem l_popAt : MtL X "list.pop" gPopAt := by
  refine ⟨_, mt_popAt, fun W H l xs ys d y vs v Q wm hl hw rx rd hg k => ?_⟩
  unfold gPopAt at hg
  split at hg
  · split at hg
    · rename_i i hz
      obtain ⟨j, e1, hg⟩ := Option.bind_eq_some_iff.mp hg
      obtain ⟨z, e2, hg⟩ := Option.map_eq_some_iff.mp hg
      cases hg
      obtain ⟨u, e3, ru⟩ := rx.get e2
      cases (show v = .int i from rd)
      exact ⟨l, vs, i, j, u, rfl, rfl, hl, hz.1, hz.2, by rw [← rx.length]; exact e1, e3, k _ _ ru (rx.eraseIdx j)⟩
    · cases hg
  · cases hg
/-- without an argument -/
@[simp] def chg0 (i : Nat) (g : List D → Option (D × List D)) (e : En) : Out := match e[i]? with
  | some (some (.lst xs)) => (match g xs with
    | some (y, ys) => .ok (.d y) (e.set i (some (.lst ys)))
    | none => .stuck)
  | _ => .stuck
structure MtL0 (X : Cx) (id : String) (g : List D → Option (D × List D)) : Prop where
  run : ∃ r : V → List V → Hp → VK → Prop, MtR X id r ∧ ∀ (W : List Addr) (H : Hp) (l : Addr) (xs ys : List D) (y : D) (vs : List V) (Q : VK), WM W H → H l = some (.lst vs) → l ∈ W → RpL W X.K H xs vs → g xs = some (y, ys) →
    (∀ u us, Rp W X.K H y u → RpL W X.K H ys us → Q u (upd H l (.lst us))) → r (.ref l) [] H Q
theorem pm_mt0 {id : String} {m : Str} {g : List D → Option (D × List D)} (i : Nat) (ho : MtL0 X id g) (slot : Slot "list" m id) (hty : typeOf (.builtin id) = pure (.type "method_descriptor")) (hN : X.N[i]? = some x := by rfl) (hv : Vis X.env.scope x := by first | exact Or.inl rfl | exact Or.inr (Or.inl rfl) | exact Or.inr (Or.inr rfl))
    (hd : (x == ("__debug__" : Str)) = false := by decide) (hcd : (x == ("__classdict__" : Str)) = false := by decide)
    (hbase : attributeBase (.Name x px) m X.env (eval (.Name x px) X.env) = eval (.Name x px) X.env := by rfl) (hline : (apos.endLine == cpos.line) = true := by rfl) :
    PM X Wx (.Call (.Attribute (.Name x px) m apos) [] [] cpos) (chg0 i g) := by
  obtain ⟨rl, h1, h2⟩ := ho.run
  refine PM.of ⟨_, pe_bm0 F.plainAttrs_list slot hty h1 (pe_var hN hv hd hcd) hbase hline, fun W H σ e Q sr hc => ?_⟩
  unfold chg0 at hc
  split at hc
  rotate_left
  · exact hc.elim
  rename_i xs hx
  split at hc
  rotate_left
  · exact hc.elim
  rename_i y ys hg
  obtain ⟨l, vs, q1, q2, q3, q4⟩ := sr.hit hx
  refine ⟨_, q1, .inl ⟨rfl, vs, .of q3⟩, ?_⟩
  exact h2 W H l xs ys y vs Q sr.wm q3 q2 q4 hg fun u us ru rus => OutK.at (sr.setL hx q1 q2 rus) (Rp.mono (EX.ex (sr.setL hx q1 q2 rus).2 sr) y ru) hc
@[simp] def gPop (xs : List D) : Option (D × List D) := (xs[xs.length - 1]?).map fun y => (y, xs.dropLast)
theorem l_pop : MtL0 X "list.pop" gPop := by
  refine ⟨_, mt_pop, fun W H l xs ys y vs Q wm hl hw rx hg k => ?_⟩
  obtain ⟨z, e2, hg⟩ := Option.map_eq_some_iff.mp hg
  cases hg
  obtain ⟨u, e3, ru⟩ := rx.get e2
  refine ⟨l, vs, u, rfl, rfl, hl, by rw [← rx.length]; exact e3, k _ _ ru ?_⟩
  rw [List.dropLast_eq_take, List.dropLast_eq_take, ← rx.length]
  exact rx.take _
end

/-! ## statements -/
section
variable {W W' W1 : List Addr} {K : PySem.W.Frag} {mg : Str → Option Value} {Wx : WX} {lk : List Nat} {H H' H1 : Hp} {σ σ1 σ' : St} {e e1 e' : En} {Q : VK} {D0 : Ends}
theorem FlK.go (x : EX W H σ e W1 H1 σ1 e1) (hl : ∀ i ∈ lk, σ1[i]? = σ[i]?) : ∀ {fl : Fl}, FlK K mg Wx lk W H σ e D0 fl → FlK K mg Wx lk W1 H1 σ1 e1 D0 fl
  | .stuck, h => h
  | .nx e', h => fun W' H' σ' sr y l => h W' H' σ' sr (x.trans y) fun i hi => (l i hi).trans (hl i hi)
  | .bk e', h => fun W' H' σ' sr y l => h W' H' σ' sr (x.trans y) fun i hi => (l i hi).trans (hl i hi)
  | .ct e', h => fun W' H' σ' sr y l => h W' H' σ' sr (x.trans y) fun i hi => (l i hi).trans (hl i hi)
  | .rt s e', h => fun v W' H' σ' sr y l r o => h v W' H' σ' sr (x.trans y) (fun i hi => (l i hi).trans (hl i hi)) r fun so a ea => ⟨(o so a ea).1, (o so a ea).2.elim (x.sub a) fun z => .inr (x.dom a z)⟩
  | .ex z e', h => fun c d W' H' σ' sr y l r => h c d W' H' σ' sr (x.trans y) (fun i hi => (l i hi).trans (hl i hi)) r
@[simp] def Fl.seq (fl : Fl) (f : FS) : Fl := match fl with
  | .nx e => f e
  | o => o
@[simp] def sSeq (f g : FS) : FS := fun e => (f e).seq g
@[simp] def sNil : FS := fun e => .nx e
/-- out of an expression -/
@[simp] def Out.st (o : Out) (f : S → FS) : Fl := match o with
  | .stuck => .stuck
  | .ok s e => f s e
  | .ex x e => .ex x e
end
section
variable {X : Cx} {Wx : WX} {lk : List Nat} {a b c : Expr} {fa fb : FM} {stm : Stmt} {rest sts sts2 : List Stmt} {f g : FS} {pos : Pos}
theorem sds_nil : SDs X Wx lk [] sNil := SDs.of ⟨_, pss_nil, fun W H σ e D sr h => h W H σ sr .refl fun _ _ => rfl⟩
theorem sds_cons (h1 : SD X Wx lk stm f) (h2 : SDs X Wx lk rest g) : SDs X Wx lk (stm :: rest) (sSeq f g) := by
  obtain ⟨t, p, k⟩ := h1.run
  obtain ⟨u, p', k'⟩ := h2.run
  refine SDs.of ⟨_, pss_cons p p', fun W H σ e D sr h => k W H σ e _ sr ?_⟩
  unfold sSeq at h
  revert h
  generalize f e = fl
  intro h
  cases fl with
  | nx e1 => exact fun W1 H1 σ1 sr1 x l => k' W1 H1 σ1 e1 D sr1 (FlK.go x l h)
  | _ => exact h
theorem sds_one (h1 : SD X Wx lk stm f) : SDs X Wx lk [stm] f := by
  obtain ⟨t, p, k⟩ := h1.run
  exact SDs.of ⟨_, pss_one p, k⟩
@[simp] def sStuck : FS := fun _ => .stuck
theorem sd_never : SD X Wx lk stm sStuck := SD.of ⟨_, ps_never, fun W H σ e D sr h => h⟩
@[simp] def sBreak : FS := fun e => .bk e
@[simp] def sCont : FS := fun e => .ct e
/-- through an expression: frozen -/
theorem DK.st {W : List Addr} {H : Hp} {σ : St} {e : En} {D0 : Ends} {Q0 : VK} {o : Out} {f : S → FS} (wm : WM W H) (h : FlK X.K X.mg Wx lk W H σ e D0 (o.st f))
    (k : ∀ s v e1 W1 H1, SR W1 X.K H1 σ e1 → EX W H σ e W1 H1 σ e1 → Rp W1 X.K H1 s.view v → FlK X.K X.mg Wx lk W1 H1 σ e1 D0 (f s e1) → Q0 v H1) : OutK X.K X.mg Wx W H σ e Q0 o :=
  DK.out wm (match o with
    | .stuck => h
    | .ex z e' => fun c d W' H' sr x r => h c d W' H' σ sr x (fun _ _ => rfl) r
    | .ok s e1 => fun v W1 H1 sr1 x r => k s v e1 W1 H1 sr1 x r (FlK.go (fl := f s e1) x (fun _ _ => rfl) h))
/-- .. as it is -/
theorem OutK.st {W : List Addr} {H : Hp} {σ : St} {e : En} {D0 : Ends} {Q0 : VK} {o : Out} {f : S → FS} (h : FlK X.K X.mg Wx lk W H σ e D0 (o.st f))
    (k : ∀ s v e1 W1 H1, SR W1 X.K H1 σ e1 → EX W H σ e W1 H1 σ e1 → RS W1 X.K H1 s v → (s.own = true → ∀ a, v = .ref a → H a = none ∧ ¬ Ow σ e1 a) → FlK X.K X.mg Wx lk W H σ e D0 (f s e1) → Q0 v H1) : OutK X.K X.mg Wx W H σ e Q0 o :=
  match o with
    | .stuck => h
    | .ex z e' => fun c d W' H' sr x r => h c d W' H' σ sr x (fun _ _ => rfl) r
    | .ok s e1 => fun v W1 H1 sr1 x r fr => k s v e1 W1 H1 sr1 x r fr h
@[simp] def sExpr (fa : FM) : FS := fun e => (fa e).st fun _ e1 => .nx e1
theorem sd_expr (ha : PM X Wx a fa) (hs : swapsWith a none pos.line X.env = pure false := by rfl) : SD X Wx lk (.Expr a pos) (sExpr fa) := by
  obtain ⟨t, p, k⟩ := ha.run
  exact SD.of ⟨_, ps_expr p hs, fun W H σ e D sr h => k W H σ e _ sr (DK.st sr.wm h fun s v e1 W1 H1 sr1 x r h1 => h1 W1 H1 σ sr1 .refl fun _ _ => rfl)⟩
/-! ### name = .. -/
theorem setD_st {W : List Addr} {H : Hp} {σ : St} {e : En} {D0 : Ends} {i : Nat} {d : D} {v : V} (hlk : i ∉ lk) (hi : i < e.length) (sr : SR W X.K H σ e) (r : Rp W X.K H d v) (h : FlK X.K X.mg Wx lk W H σ e D0 (.nx (e.set i (some (.d d))))) : D0.nx (σ.set i (some v)) H := by
  have hσ : i < σ.length := by rw [← sr.len]; exact hi
  refine h W H _ (sr.setD hσ r) ⟨fun _ _ q _ _ => q, fun _ _ _ n => n, fun a q n => ⟨q, fun z => n (z.setD hi)⟩, fun a z => .inl (z.setD hi), fun _ q => q⟩ fun j hj => List.getElem?_set_ne fun (z : i = j) => hlk (by rw [z]; exact hj)
/-- the name gets frozen data -/
@[simp] def put (i : Nat) (d : D) (e : En) : Fl := if i < e.length then .nx (e.set i (some (.d d))) else .stuck
@[simp] def sSet (i : Nat) (fa : FM) : FS := fun e => (fa e).st fun s e1 => put i s.view e1
theorem put_st {W : List Addr} {H : Hp} {σ : St} {e : En} {D0 : Ends} {i : Nat} {d : D} {v : V} (hlk : i ∉ lk) (sr : SR W X.K H σ e) (r : Rp W X.K H d v) (h : FlK X.K X.mg Wx lk W H σ e D0 (put i d e)) : D0.nx (σ.set i (some v)) H := by
  unfold put at h
  split at h
  · rename_i hi
    exact setD_st hlk hi sr r h
  · exact h.elim
theorem sd_set (i : Nat) {x : Str} {px : Pos} (ha : PM X Wx a fa) (hN : X.N.Nodup) (hlk : i ∉ lk := by decide) (hi : X.N[i]? = some x := by rfl) (hx : Loc X.env.scope x := by first | exact Or.inl rfl | exact Or.inr rfl) (hs : swapsWith a (some (.Name x px)) pos.line X.env = pure false := by rfl)
    (hf : X.fn x = true ∨ X.env.scope.names.lookup x = some .local := by first | exact .inl rfl | exact .inr rfl | assumption) : SD X Wx lk (.Assign [.Name x px] a pos) (sSet i fa) := by
  obtain ⟨t, p, k⟩ := ha.run
  exact SD.of ⟨_, ps_set hN hi hx p hs hf, fun W H σ e D sr h => k W H σ e _ sr (DK.st sr.wm h fun s v e1 W1 H1 sr1 x1 r h1 => put_st hlk sr1 r h1)⟩
/-- the name gets the new list for itself -/
@[simp] def putO (i : Nat) (s : S) (e : En) : Fl := if i < e.length then .nx (e.set i (some s)) else .stuck
@[simp] def sSetO (i : Nat) (fa : FM) : FS := fun e => (fa e).st (putO i)
theorem store_own {W W1 : List Addr} {H H1 : Hp} {σ0 σ : St} {e e1 : En} {K : PySem.W.Frag} {i : Nat} {s : S} {v : V} (wm : WM W H) (sr : SR W1 K H1 σ e1) (x : EX W H σ0 e W1 H1 σ e1) (r : RS W1 K H1 s v) (fr : s.own = true → ∀ a, v = .ref a → H a = none ∧ ¬ Ow σ e1 a) (hi : i < e1.length) :
    SR W1 K H1 (σ.set i (some v)) (e1.set i (some s)) ∧ EX W H σ0 e W1 H1 (σ.set i (some v)) (e1.set i (some s)) := by
  have hσ : i < σ.length := by rw [← sr.len]; exact hi
  cases s with
  | d y => exact ⟨sr.setD hσ r, x.trans ⟨fun _ _ q _ _ => q, fun _ _ _ n => n, fun a q n => ⟨q, fun z => n (z.setD hi)⟩, fun a z => .inl (z.setD hi), fun _ q => q⟩⟩
  | lst ys =>
    obtain ⟨a, us, rfl, q1, q2, q3⟩ := r
    obtain ⟨f1, f2⟩ := fr rfl a rfl
    have back : ∀ {j : Nat} {t : S} {b : Addr}, (e1.set i (some (S.lst ys)))[j]? = some (some t) → (σ.set i (some (V.ref a)))[j]? = some (some (.ref b)) → (i = j ∧ b = a) ∨ (i ≠ j ∧ e1[j]? = some (some t) ∧ σ[j]? = some (some (.ref b))) := by
      intro j t b q p
      by_cases z : i = j
      · subst z
        rw [List.getElem?_set_self hσ] at p
        cases p
        exact .inl ⟨rfl, rfl⟩
      · rw [List.getElem?_set_ne z] at q p
        exact .inr ⟨z, q, p⟩
    refine ⟨⟨sr.tb, sr.wm, by rw [List.length_set, List.length_set, sr.len], fun j t q => ?_, fun j k t t' b p1 p2 o1 o2 w1 w2 => ?_⟩, ⟨x.keep, x.frz, fun b hb n => ?_, fun b hb => ?_, x.dom⟩⟩
    · by_cases z : i = j
      · subst z
        rw [List.getElem?_set_self hi] at q
        cases q
        exact ⟨_, List.getElem?_set_self hσ, a, us, rfl, q1, q2, q3⟩
      · rw [List.getElem?_set_ne z] at q
        obtain ⟨v, h1, h2⟩ := sr.sl j t q
        exact ⟨v, by rw [List.getElem?_set_ne z]; exact h1, h2⟩
    · rcases back p1 w1 with ⟨rfl, rfl⟩ | ⟨z1, y1, y2⟩
      · rcases back p2 w2 with ⟨rfl, _⟩ | ⟨z2, y3, y4⟩
        · rfl
        · exact absurd ⟨k, t', y3, o2, y4⟩ f2
      · rcases back p2 w2 with ⟨rfl, rfl⟩ | ⟨z2, y3, y4⟩
        · exact absurd ⟨j, t, y1, o1, y2⟩ f2
        · exact sr.one j k t t' b y1 y3 o1 o2 y2 y4
    · obtain ⟨m1, m2⟩ := x.tmp b hb n
      refine ⟨m1, ?_⟩
      rintro ⟨j, t, w1, w2, w3⟩
      rcases back w1 w3 with ⟨rfl, rfl⟩ | ⟨_, y1, y2⟩
      · exact absurd f1 (isSome_of_mut (wm b hb))
      · exact m2 ⟨j, t, y1, w2, y2⟩
    · obtain ⟨j, t, w1, w2, w3⟩ := hb
      rcases back w1 w3 with ⟨rfl, rfl⟩ | ⟨_, y1, y2⟩
      · exact .inr f1
      · exact x.sub b ⟨j, t, y1, w2, y2⟩
theorem putO_st {W W1 : List Addr} {H H1 : Hp} {σ : St} {e e1 : En} {D0 : Ends} {i : Nat} {s : S} {v : V} (hlk : i ∉ lk) (wm : WM W H) (sr : SR W1 X.K H1 σ e1) (x : EX W H σ e W1 H1 σ e1) (r : RS W1 X.K H1 s v) (fr : s.own = true → ∀ a, v = .ref a → H a = none ∧ ¬ Ow σ e1 a)
    (h : FlK X.K X.mg Wx lk W H σ e D0 (putO i s e1)) : D0.nx (σ.set i (some v)) H1 := by
  unfold putO at h
  split at h
  rotate_left
  · exact h.elim
  rename_i hi
  obtain ⟨s2, x2⟩ := store_own wm sr x r fr hi
  exact h W1 H1 _ s2 x2 fun j hj => List.getElem?_set_ne fun (z : i = j) => hlk (by rw [z]; exact hj)
end
end DL

set_option maxHeartbeats 2000000
namespace DL
open PySem PySem.Spec PyProof.Rows L2

section
variable {W W' W1 W2 : List Addr} {K : PySem.W.Frag} {H H' H1 H2 : Hp} {σ σ1 σ' : St} {e e1 e' : En}
theorem Ex.trans (x : Ex W H W1 H1) (y : Ex W1 H1 W2 H2) : Ex W H W2 H2 := ⟨x.wm, fun a o h n m => let q := x.keep a o h n m; y.keep a o q.1 q.2 m⟩
/-- fewer are owned by name -/
theorem EX.shrink (s : ∀ a, Ow σ' e' a → Ow σ e a) : EX W H σ e W H σ' e' := ⟨fun _ _ h _ _ => h, fun _ _ _ n => n, fun a h n => ⟨h, fun z => n (s a z)⟩, fun a z => .inl (s a z), fun _ h => h⟩
theorem EX.updNew {a : Addr} {o : HO} (x : EX W H σ e W' H' σ' e') (n : H a = none) : EX W H σ e W' (upd H' a o) σ' e' :=
  ⟨fun b u h m l => by rw [upd_ne (ne_of_none h n)]; exact x.keep b u h m l, x.frz, x.tmp, x.sub, fun b h => by
    by_cases z : b = a
    · rw [z]; exact n
    · rw [upd_ne z] at h; exact x.dom b h⟩
/-- a list that no name owns gets other contents -/
theorem SR.updT {a : Addr} {us vs0 : List V} (r : SR W K H σ e) (h0 : H a = some (.lst vs0)) (hw : a ∈ W) (n : ¬ Ow σ e a) : SR W K (upd H a (.lst us)) σ e where
  tb := r.tb.put h0 rfl fun _ => codeO_lst
  wm := fun b h => by
    by_cases z : b = a
    · rw [z, upd_same]; trivial
    · rw [upd_ne z]; exact r.wm b h
  len := r.len
  sl := fun i s h => by
    have x : Ex W H W (upd H a (.lst us)) := ⟨r.wm, fun b o q m _ => ⟨by rw [upd_ne fun (z : b = a) => m (by rw [z]; exact hw)]; exact q, m⟩⟩
    obtain ⟨v, h1, h2⟩ := r.sl i s h
    refine ⟨v, h1, ?_⟩
    cases s with
    | d y => exact Rp.mono x y h2
    | lst ys =>
      obtain ⟨b, vs, rfl, q1, q2, q3⟩ := h2
      refine ⟨b, vs, rfl, q1, ?_, RpL.mono x ys q3⟩
      rw [upd_ne fun (z : b = a) => n ⟨i, _, h, rfl, by rw [h1, z]⟩]
      exact q2
  one := r.one
theorem Ow.wipe {vs : List Nat} {a : Addr} (o : Ow (L2.wipe σ vs) (wipeE e vs) a) : Ow σ e a := by
  obtain ⟨i, s, h1, h2, h3⟩ := o
  obtain ⟨q, n⟩ := wipeE_in h1
  rw [wipe_stay n] at h3
  exact ⟨i, s, q, h2, h3⟩
/-- behind a block: its names' slots stand as ahead -/
def unw (vs : List Nat) (e e' : En) : En := e'.mapIdx fun j o => if vs.contains j = true then (e[j]?).join else o
theorem unw_at {vs : List Nat} {e e' : En} {j : Nat} {s : S} (h : (unw vs e e')[j]? = some (some s)) : (j ∈ vs ∧ e[j]? = some (some s)) ∨ (j ∉ vs ∧ e'[j]? = some (some s)) := by
  unfold unw at h
  rw [List.getElem?_mapIdx] at h
  obtain ⟨o, h1, h2⟩ := Option.map_eq_some_iff.mp h
  split at h2
  · rename_i c
    refine .inl ⟨by simpa using c, ?_⟩
    cases q : e[j]? with
    | none => rw [q] at h2; cases h2
    | some u => rw [q] at h2; rw [show u = some s from h2]
  · rename_i c
    exact .inr ⟨by simpa using c, by rw [h1, h2]⟩
theorem unw_ok {vs : List Nat} {We : List Addr} {He : Hp} (r : SR W K H σ e) (g : Grow K W H W1 H1) (rw1 : SR W1 K H1 (L2.wipe σ vs) (wipeE e vs)) (rE : SR We K He (L2.wipe σ vs) e') (x : EX W1 H1 (L2.wipe σ vs) (wipeE e vs) We He (L2.wipe σ vs) e') :
    SR We K He σ (unw vs e e') ∧ EX W H σ e We He σ (unw vs e e') ∧ ∀ a, Ow σ (unw vs e e') a → Ow σ e a ∨ Ow (L2.wipe σ vs) e' a := by
  have ex : Ex W H We He := (g.ex r.wm).trans (x.ex rw1)
  have up : ∀ {j : Nat} {s : S} {a : Addr}, j ∉ vs → e'[j]? = some (some s) → s.own = true → σ[j]? = some (some (.ref a)) → Ow (L2.wipe σ vs) e' a := fun {j s a} n h o p => ⟨j, s, h, o, by rw [wipe_stay n]; exact p⟩
  have spl : ∀ a, Ow σ (unw vs e e') a → Ow σ e a ∨ Ow (L2.wipe σ vs) e' a := by
    rintro a ⟨j, s, h1, h2, h3⟩
    rcases unw_at h1 with ⟨_, q⟩ | ⟨n, q⟩
    · exact .inl ⟨j, s, q, h2, h3⟩
    · exact .inr (up n q h2 h3)
  -- an address held by a name of the block's
  have nb : ∀ {j : Nat} {s : S} {a : Addr}, j ∈ vs → e[j]? = some (some s) → s.own = true → σ[j]? = some (some (.ref a)) → ¬ Ow (L2.wipe σ vs) (wipeE e vs) a := by
    rintro j s a hj h o p ⟨k, t, q1, q2, q3⟩
    obtain ⟨w1, w2⟩ := wipeE_in q1
    rw [wipe_stay w2] at q3
    have := r.one j k s t a h w1 o q2 p q3
    subst this
    exact w2 hj
  have nb2 : ∀ {j : Nat} {s : S} {a : Addr}, j ∈ vs → e[j]? = some (some s) → s.own = true → σ[j]? = some (some (.ref a)) → ¬ Ow (L2.wipe σ vs) e' a := by
    intro j s a hj h o p z
    rcases x.sub a z with w | w
    · exact nb hj h o p w
    · obtain ⟨ys, es⟩ := own_lst o
      obtain ⟨b, us, q1, q2, q3, _⟩ := r.hit (xs := ys) (by rw [h, es])
      rw [p] at q1
      cases q1
      rw [g.keep _ _ q3 rfl] at w
      cases w
  refine ⟨⟨rE.tb, rE.wm, ?_, fun j s h => ?_, fun j k s t a h1 h2 o1 o2 p1 p2 => ?_⟩, ⟨fun a o h n m => x.keep a o (g.keep a o h m) (fun z => n z.wipe) m, fun a o h n => (by
    have n1 : a ∉ W1 := fun z => (g.new a z).elim n fun z => by rw [h] at z; cases z
    cases hh : H1 a with
    | none => rw [g.dom a hh] at h; cases h
    | some o1 => exact x.frz a o1 hh n1), fun a h n => ?_, fun a h => ?_, fun a h => g.fresh (x.dom a h)⟩, spl⟩
  · unfold unw
    rw [List.length_mapIdx, rE.len, wipe_length]
  · rcases unw_at h with ⟨hj, q⟩ | ⟨n, q⟩
    · obtain ⟨v, h1, h2⟩ := r.sl j s q
      refine ⟨v, h1, ?_⟩
      cases s with
      | d y => exact Rp.mono ex y h2
      | lst ys =>
        obtain ⟨a, us, rfl, p1, p2, p3⟩ := h2
        have na := nb hj q rfl h1
        exact ⟨a, us, rfl, (x.tmp a (g.sub a p1) na).1, x.keep a _ (g.keep a _ p2 rfl) na rfl, RpL.mono ex ys p3⟩
    · obtain ⟨v, h1, h2⟩ := rE.sl j s q
      rw [wipe_stay n] at h1
      exact ⟨v, h1, h2⟩
  · rcases unw_at h1 with ⟨hj, q⟩ | ⟨n, q⟩
    · rcases unw_at h2 with ⟨hk, q'⟩ | ⟨n', q'⟩
      · exact r.one j k s t a q q' o1 o2 p1 p2
      · exact absurd (up n' q' o2 p2) (nb2 hj q o1 p1)
    · rcases unw_at h2 with ⟨hk, q'⟩ | ⟨n', q'⟩
      · exact absurd (up n q o1 p1) (nb2 hk q' o2 p2)
      · exact rE.one j k s t a q q' o1 o2 (by rw [wipe_stay n]; exact p1) (by rw [wipe_stay n']; exact p2)
  · obtain ⟨h1, h2⟩ := x.tmp a (g.sub a h) fun z => n z.wipe
    exact ⟨h1, fun z => (spl a z).elim n h2⟩
  · rcases spl a h with z | z
    · exact .inl z
    · rcases x.sub a z with w | w
      · exact .inl w.wipe
      · exact .inr (g.fresh w)
end

/-! ## list comprehensions whose parts have effects -/
def noW : WX := fun _ _ _ _ => False
@[simp] def lcM (bind : FG) (ft : FT) (fe : FM) (vs : List Nat) : List D → En → OL
  | [], e => .ok [] e
  | d :: ds, e => match bind d e with
    | none => .stuck
    | some e1 => match ft e1 with
      | none => .stuck
      | some b => if b = true then (match fe e1 with
        | .ok s e2 => OL.cons s.view (lcM bind ft fe vs ds (wipeE e2 vs))
        | _ => .stuck) else lcM bind ft fe vs ds (wipeE e1 vs)
@[simp] def mLc (vs : List Nat) (fi : FI) (bind : FG) (ft : FT) (fe : FM) : FM := fun e => match fi e with
  | some (ds, true) => (match lcM bind ft fe vs ds (wipeE e vs) with
    | .ok xs e' => if xs.length ≤ SZ then .ok (.lst xs) (unw vs e e') else .stuck
    | _ => .stuck)
  | _ => .stuck
structure LmAt (K : PySem.W.Frag) (W' : List Addr) (H1 : Hp) (D0 : Addr) (bind : FG) (ft : FT) (fe : FM) (vs : List Nat) (σw : St) (ew : En) (ds xs : List D) (eE : En) (i : Nat) (H : Hp) (W2 : List Addr) (e2 : En) (dn rest : List D) (acc : List V) : Prop where
  sr : SR W2 K H σw e2
  x : EX W' H1 σw ew W2 H σw e2
  dm : D0 ∈ W2
  no : ¬ Ow σw e2 D0
  at_ : H D0 = some (.lst acc)
  rp : RpL W2 K H dn acc
  todo : lcM bind ft fe vs (ds.drop i) e2 = .ok rest eE
  all : dn ++ rest = xs
theorem lm_read {K : PySem.W.Frag} {mg : Str → Option Value} {W W' : List Addr} {H H1 : Hp} {σ : St} {e eE : En} {J : It} {ds xs : List D} {vs : List Nat} {bind : FG} {ft : FT} {fe : FM} {Q : VK} {D0 : Addr} (sr : SR W K H σ e) (g1 : Grow K W H W' H1) (hn : H1 D0 = none)
    (it : ∀ W2 H2, Ex W' H1 W2 H2 → WM W2 H2 → ItAt tg W2 K H2 J ds) (hx : lcM bind ft fe vs ds (wipeE e vs) = .ok xs eE) (hz : xs.length ≤ SZ)
    (k : ∀ W2 H2 acc, SR W2 K H2 (wipe σ vs) eE → EX W' H1 (wipe σ vs) (wipeE e vs) W2 H2 (wipe σ vs) eE → D0 ∈ W2 → ¬ Ow (wipe σ vs) eE D0 → H2 D0 = some (.lst acc) → RpL W2 K H2 xs acc → Q (.ref D0) H2) :
    ∃ Wi : Nat → Nat → Hp → Prop, (∃ m, Wi 0 m (upd H1 D0 (.lst []))) ∧ ∀ i m H, Wi i m H →
      (J.stop i H ∧ Q (.ref D0) H) ∨ (J.go i H ∧ ∃ Nx : Hp → Prop, (∀ H', Nx H' → ∃ m', m' < m ∧ Wi (i + 1) m' H') ∧ ∀ x H', J.yld i H x H' → tG tg K vs bind x (wipe σ vs) H' fun σ2 H2 => wipe σ2 vs = wipe σ vs ∧ tT K ft σ2 H2 fun b H3 =>
        if b = true then tM K mg noW fe σ2 H3 fun y H4 => ∃ acc, H4 D0 = some (.lst acc) ∧ acc.length < sizeLine ∧ Nx (upd H4 D0 (.lst (acc ++ [y]))) else Nx H3) := by
  have srw : SR W' K H1 (wipe σ vs) (wipeE e vs) := g1.sr (sr.wipe vs)
  have g0 : Grow K W' H1 (D0 :: W') (upd H1 D0 (.lst [])) := .lst g1.wm hn
  refine ⟨fun i m H => m = ds.length - i ∧ i ≤ ds.length ∧ ∃ W2 e2 dn rest acc, LmAt K W' H1 D0 bind ft fe vs (wipe σ vs) (wipeE e vs) ds xs eE i H W2 e2 dn rest acc, ⟨ds.length, rfl, Nat.zero_le _, D0 :: W', wipeE e vs, [], xs, [], ?_⟩, ?_⟩
  · exact ⟨g0.sr srw, g0.fx srw, List.mem_cons_self, fun z => srw.thr (srw.ow z) hn, upd_same, rfl, hx, rfl⟩
  · rintro i m H2 ⟨rfl, hi, W2, e2, dn, rest, acc, L⟩
    have I2 := it W2 H2 (L.x.ex srw) L.sr.wm
    by_cases hlt : i < ds.length
    · refine .inr ?_
      obtain ⟨d, hd⟩ : ∃ d, ds[i]? = some d := ⟨ds[i], List.getElem?_eq_getElem hlt⟩
      obtain ⟨hgo, hy⟩ := I2.1 i d hd
      refine ⟨hgo, fun H' => ∃ W2 e2 dn rest acc, LmAt K W' H1 D0 bind ft fe vs (wipe σ vs) (wipeE e vs) ds xs eE (i + 1) H' W2 e2 dn rest acc, fun H' q => ⟨ds.length - (i + 1), by omega, rfl, hlt, q⟩, fun x H3 y => ?_⟩
      obtain ⟨kp, rp⟩ := hy x H3 y
      have todo := L.todo
      have ed : ds.drop i = d :: ds.drop (i + 1) := by
        rw [List.drop_eq_getElem_cons hlt]
        rw [List.getElem?_eq_getElem hlt] at hd
        cases hd
        rfl
      rw [ed] at todo
      unfold lcM at todo
      split at todo
      · cases todo
      rename_i e1 he1
      split at todo
      · cases todo
      rename_i b hb
      have g3 : Grow K W2 H2 W2 H3 := .of L.sr.wm kp
      refine ⟨W2, e2, d, e1, g3.sr L.sr, rp, he1, fun σ1 sr1 l1 a1 o1 => ?_⟩
      have ew := wipe_same (l1.trans (wipe_length σ vs)) a1
      refine ⟨ew, W2, e1, b, sr1, hb, fun W4 H4 g4 => ?_⟩
      have x3 : EX W' H1 (wipe σ vs) (wipeE e vs) W4 H4 σ1 e1 := ((L.x.trans (g3.fx L.sr)).trans (EX.shrink o1)).trans (g4.fx sr1)
      have sr4 := g4.sr sr1
      have g34 := g3.trans g4
      have dm4 := g34.sub _ L.dm
      have no4 : ¬ Ow σ1 e1 D0 := fun z => L.no (o1 _ z)
      have at4 := g34.keep _ _ L.at_ rfl
      have rp4 := RpL.mono (g34.ex L.sr.wm) _ L.rp
      cases b with
      | false =>
        refine iteF ⟨W4, wipeE e1 vs, dn, rest, acc, ⟨by rw [← ew]; exact sr4.wipe vs, ?_, dm4, fun z => no4 (by rw [← ew] at z; exact z.wipe), at4, rp4, todo, L.all⟩⟩
        exact x3.trans (EX.shrink fun a z => by rw [← ew] at z; exact z.wipe)
      | true =>
        refine iteT ?_
        have todo : (match fe e1 with | .ok s e2 => OL.cons s.view (lcM bind ft fe vs (ds.drop (i + 1)) (wipeE e2 vs)) | _ => OL.stuck) = .ok rest eE := todo
        split at todo
        rotate_left
        · cases todo
        rename_i s e5 hfe
        refine ⟨W4, e1, sr4, ?_⟩
        rw [hfe]
        refine DK.out sr4.wm fun yv W5 H5 sr5 x5 ry => ?_
        have dm5 := x5.tmp _ dm4 no4
        have at5 := x5.keep _ _ at4 no4 rfl
        have rp5 := RpL.mono (x5.ex sr4) _ rp4
        cases ho : lcM bind ft fe vs (ds.drop (i + 1)) (wipeE e5 vs) with
        | stuck => rw [ho] at todo; cases todo
        | ex x e => rw [ho] at todo; cases todo
        | ok rest' eE' =>
          rw [ho] at todo
          cases todo
          have no6 : ¬ Ow (wipe σ vs) (wipeE e5 vs) D0 := fun z => dm5.2 (by rw [← ew] at z; exact z.wipe)
          have sr6 : SR W5 K H5 (wipe σ vs) (wipeE e5 vs) := by rw [← ew]; exact sr5.wipe vs
          have x6 : EX W' H1 (wipe σ vs) (wipeE e vs) W5 H5 (wipe σ vs) (wipeE e5 vs) := (x3.trans x5).trans (EX.shrink fun a z => by rw [← ew] at z; exact z.wipe)
          have exu : Ex W5 H5 W5 (upd H5 D0 (.lst (acc ++ [yv]))) := ⟨sr5.wm, fun a o h n _ => ⟨by rw [upd_ne fun (q : a = D0) => n (by rw [q]; exact dm5.1)]; exact h, n⟩⟩
          refine ⟨acc, at5, ?_, W5, wipeE e5 vs, dn ++ [s.view], rest', acc ++ [yv], ⟨sr6.updT at5 dm5.1 no6, x6.updNew hn, dm5.1, no6, upd_same, RpL.mono exu _ (rp5.append (.one ry)), ho, by rw [List.append_assoc]; exact L.all⟩⟩
          have q := congrArg List.length L.all
          rw [List.length_append, List.length_cons] at q
          have q3 := L.rp.length
          rw [SZ_eq]
          omega
    · have ei : i = ds.length := by omega
      subst ei
      refine .inl ⟨I2.2, ?_⟩
      have todo := L.todo
      rw [List.drop_length] at todo
      cases todo
      have ea := L.all
      rw [List.append_nil] at ea
      subst ea
      exact k W2 H2 acc L.sr L.x L.dm L.no L.at_ L.rp
section
variable {X : Cx} {Wx : WX}
theorem lm_fin {vs : List Nat} {fi : FI} {bind : FG} {ft : FT} {fe : FM} {W : List Addr} {H : Hp} {σ : St} {e : En} {Q : VK} (sr : SR W X.K H σ e) (h : OutK X.K X.mg Wx W H σ e Q (mLc vs fi bind ft fe e)) :
    tLc (tI tg X.K fi) (tG tg X.K vs bind) (tT X.K ft) (tM X.K X.mg noW fe) vs σ H Q := by
  unfold mLc at h
  split at h
  rotate_left
  · exact h.elim
  rename_i ds hi
  split at h
  rotate_left
  · exact h.elim
  rename_i xs eE hl
  split at h
  rotate_left
  · exact h.elim
  rename_i hz
  refine ⟨W, e, ds, true, sr, hi, fun J W' H1 g1 it D0 hn => lm_read sr g1 hn (fun W2 H2 x wm => it W2 H2 (.inr ⟨rfl, x, wm⟩)) hl hz fun W2 H2 acc s2 x2 dm no at_ rp => ?_⟩
  obtain ⟨s3, x3, ow⟩ := unw_ok sr g1 (g1.sr (sr.wipe vs)) s2 x2
  refine h _ W2 H2 s3 x3 ⟨D0, acc, rfl, dm, at_, rp⟩ fun _ a ea => ?_
  cases ea
  exact ⟨g1.fresh hn, fun z => (ow _ z).elim (fun w => sr.thr (sr.ow w) (g1.fresh hn)) no⟩
theorem pm_lc {elt tg iter : Expr} {ifs : List Expr} {scope : Scope} {own : List (Str × Nat)} {pos : Pos} {fi : FI} {bind : FG} {ft : FT} {fe : FM} (hc : X.calm = true) (hN : X.N.Nodup) (hi : IP X tg iter fi) (ok : BlkOk X.N X.env.scope scope own)
    (hg : ∀ (s : Shared) (H : Hp) (C : Addr) (cl : List (Str × Addr)) (fp : List Addr), GP (X.blk s H scope (compEnvC scope cl C X.env) fp) tg (own.map (·.2)) bind)
    (ht : ∀ (s : Shared) (H : Hp) (C : Addr) (cl : List (Str × Addr)) (fp : List Addr), TPs (X.blk s H scope (compEnvC scope cl C X.env) fp) ifs ft)
    (he : ∀ (s : Shared) (H : Hp) (C : Addr) (cl : List (Str × Addr)) (fp : List Addr), PM (X.blk s H scope (compEnvC scope cl C X.env) fp) noW elt fe)
    (hs : ∀ x, foldedSetIterable iter X.env x = pure x := by intro _; rfl) : PM X Wx (.ListComp elt [⟨tg, iter, ifs, 0⟩] scope pos) (mLc (own.map (·.2)) fi bind ft fe) :=
  PM.of ⟨_, pe_lc (g := tG tg X.K (own.map (·.2)) bind) (tt := tT X.K ft) (te := tM X.K X.mg noW fe) hc hN hi.pi ok (fun s H C cl fp => (hg s H C cl fp).pg) (fun s H C cl fp => (ht s H C cl fp).pts) (fun s H C cl fp => (he s H C cl fp).pe) hs, fun W H σ e Q sr h => lm_fin sr h⟩
/-- name = [..] on one line -/
theorem sd_setLc {lk : List Nat} (i : Nat) {y : Str} {py : Pos} {elt tg iter : Expr} {ifs : List Expr} {scope : Scope} {own : List (Str × Nat)} {pos spos : Pos} {fi : FI} {bind : FG} {ft : FT} {fe : FP} (hc : X.calm = true) (hN : X.N.Nodup)
    (hsw : swapsWith (.ListComp elt [⟨tg, iter, ifs, 0⟩] scope pos) (some (.Name y py)) spos.line X.env = pure true) (hi : IP X tg iter fi) (ok : BlkOk X.N X.env.scope scope own)
    (hg : ∀ (s : Shared) (H : Hp) (C : Addr) (cl : List (Str × Addr)) (fp : List Addr), GP (X.blk s H scope (compEnvC scope cl C X.env) fp) tg (own.map (·.2)) bind)
    (ht : ∀ (s : Shared) (H : Hp) (C : Addr) (cl : List (Str × Addr)) (fp : List Addr), TPs (X.blk s H scope (compEnvC scope cl C X.env) fp) ifs ft)
    (he : ∀ (s : Shared) (H : Hp) (C : Addr) (cl : List (Str × Addr)) (fp : List Addr), PP (X.blk s H scope (compEnvC scope cl C X.env) fp) elt fe)
    (hlk : i ∉ lk := by decide) (hy : X.N[i]? = some y := by rfl) (hyl : X.env.scope.names.lookup y = some .local := by rfl)
    (hs : ∀ x, foldedSetIterable iter X.env x = pure x := by intro _; rfl) : SD X Wx lk (.Assign [.Name y py] (.ListComp elt [⟨tg, iter, ifs, 0⟩] scope pos) spos) (sSet i (mPP (pLc (own.map (·.2)) fi bind ft fe))) := by
  refine SD.of ⟨_, ps_setLc (g := tG tg X.K (own.map (·.2)) bind) (tt := tT X.K ft) (te := tP X.K fe) hc hN hy hyl hsw hi.pi ok (fun s H C cl fp => (hg s H C cl fp).pg) (fun s H C cl fp => (ht s H C cl fp).pts) (fun s H C cl fp => (he s H C cl fp).pe) hs, fun W H σ e D sr h => ?_⟩
  have h2 := DK.st (Q0 := fun v H' => D.nx (σ.set i (some v)) H') sr.wm h fun s v e1 W1 H1 sr1 x1 r h1 => put_st hlk sr1 r h1
  obtain ⟨r, er, kq⟩ := OutK.rvo sr h2
  obtain ⟨⟨ds, bb⟩, e1, hf⟩ := Option.bind_eq_some_iff.mp er
  obtain ⟨xs, e2, hf⟩ := Option.bind_eq_some_iff.mp hf
  split at hf
  · rename_i hz
    cases hf
    exact ⟨W, e, ds, bb, sr, e1, fun J W' H1 g1 it D0 hn => lc_read (Q := fun v H' => D.nx (σ.set i (some v)) H') sr g1 hn (fun W2 H2 g => it W2 H2 (.inl g)) e2 hz kq⟩
  · cases hf
end
end DL

set_option maxHeartbeats 2000000
namespace DL
open PySem PySem.Spec PyProof.Rows L2

section
variable {X : Cx} {Wx : WX} {lk : List Nat} {a b c : Expr} {fa fb : FM} {stm : Stmt} {rest sts sts2 : List Stmt} {f g : FS} {pos : Pos}
theorem sd_setO (i : Nat) {x : Str} {px : Pos} (ha : PM X Wx a fa) (hN : X.N.Nodup) (hlk : i ∉ lk := by decide) (hi : X.N[i]? = some x := by rfl) (hx : Loc X.env.scope x := by first | exact Or.inl rfl | exact Or.inr rfl) (hs : swapsWith a (some (.Name x px)) pos.line X.env = pure false := by rfl)
    (hf : X.fn x = true ∨ X.env.scope.names.lookup x = some .local := by first | exact .inl rfl | exact .inr rfl | assumption) : SD X Wx lk (.Assign [.Name x px] a pos) (sSetO i fa) := by
  obtain ⟨t, p, k⟩ := ha.run
  exact SD.of ⟨_, ps_set hN hi hx p hs hf, fun W H σ e D sr h => k W H σ e _ sr (OutK.st h fun s v e1 W1 H1 sr1 x1 r fr h1 => putO_st hlk sr.wm sr1 x1 r fr h1)⟩
/-! ### return -/
@[simp] def sRet (fa : FM) : FS := fun e => (fa e).st fun s e1 => .rt s e1
theorem sd_ret (ha : PM X Wx a fa) : SD X Wx lk (.Return (some a) pos) (sRet fa) := by
  obtain ⟨t, p, k⟩ := ha.run
  refine SD.of ⟨_, ps_ret p, fun W H σ e D sr h => k W H σ e _ sr (OutK.st h fun s v e1 W1 H1 sr1 x1 r fr h1 => ?_)⟩
  exact h1 v W1 H1 σ sr1 x1 (fun _ _ => rfl) r fun so a ea => ⟨(fr so a ea).2, .inr (fr so a ea).1⟩
@[simp] def sRetN : FS := fun e => .rt (.d .non) e
/-- return name: the list goes to the caller -/
@[simp] def sRetMv (i : Nat) : FS := fun e => match e[i]? with
  | some (some s) => .rt s (e.set i none)
  | _ => .stuck
theorem sd_retMv (i : Nat) {x : Str} {px : Pos} (hN : X.N[i]? = some x := by rfl) (hv : Vis X.env.scope x := by first | exact Or.inl rfl | exact Or.inr (Or.inl rfl) | exact Or.inr (Or.inr rfl)) (hd : (x == ("__debug__" : Str)) = false := by decide)
    (hcd : (x == ("__classdict__" : Str)) = false := by decide) : SD X Wx lk (.Return (some (.Name x px)) pos) (sRetMv i) := by
  refine SD.of ⟨_, ps_ret (pe_var hN hv hd hcd), fun W H σ e D sr h => ?_⟩
  unfold sRetMv at h
  split at h
  rotate_left
  · exact h.elim
  rename_i s hs
  obtain ⟨v, h1, h2⟩ := sr.sl i s hs
  have hl : i < e.length := (List.getElem?_eq_some_iff.mp hs).1
  have back : ∀ {j : Nat} {t : S}, (e.set i none)[j]? = some (some t) → i ≠ j ∧ e[j]? = some (some t) := by
    intro j t q
    by_cases z : i = j
    · subst z
      rw [List.getElem?_set_self hl] at q
      cases q
    · rw [List.getElem?_set_ne z] at q
      exact ⟨z, q⟩
  have ow : ∀ a, Ow σ (e.set i none) a → Ow σ e a := fun a ⟨j, t, q1, q2, q3⟩ => ⟨j, t, (back q1).2, q2, q3⟩
  refine ⟨v, h1, h v W H σ ⟨sr.tb, sr.wm, by rw [List.length_set, sr.len], fun j t q => sr.sl j t (back q).2, fun j k t t' a q1 q2 => sr.one j k t t' a (back q1).2 (back q2).2⟩ (EX.shrink ow) (fun _ _ => rfl) h2 fun so a ea => ?_⟩
  subst ea
  refine ⟨fun ⟨j, t, q1, q2, q3⟩ => (back q1).1 (sr.one i j s t a hs (back q1).2 so q2 h1 q3), .inl ⟨i, s, hs, so, h1⟩⟩
/-! ### tests with effects; if -/
def BK (K : PySem.W.Frag) (mg : Str → Option Value) (Wx : WX) (W : List Addr) (H : Hp) (σ : St) (e : En) (Q : Bool → Hp → Prop) : Out → Prop
  | .stuck => False
  | .ok s e' => ∃ b, s = .d (.bl b) ∧ ∀ W' H', SR W' K H' σ e' → EX W H σ e W' H' σ e' → Q b H'
  | .ex x e' => ∀ cls d W' H', SR W' K H' σ e' → EX W H σ e W' H' σ e' → XR mg W' K H' x cls d → Wx cls d σ H'
structure TM (X : Cx) (Wx : WX) (ex : Expr) (f : FM) : Prop where
  run : ∃ t : TT, PT X ex t ∧ ∀ (W : List Addr) (H : Hp) (σ : St) (e : En) (Q : Bool → Hp → Prop), SR W X.K H σ e → BK X.K X.mg Wx W H σ e Q (f e) → t σ H Q
@[simp] def tMT (ft : FT) : FM := fun e => match ft e with
  | some b => .ok (.d (.bl b)) e
  | none => .stuck
theorem tm_tp {ft : FT} (h : TP X a ft) : TM X Wx a (tMT ft) := by
  obtain ⟨t, p, k⟩ := h.run
  refine ⟨t, p, fun W H σ e Q sr h => ?_⟩
  unfold tMT at h
  split at h
  · rename_i b hb
    obtain ⟨b', e1, h⟩ := h
    cases e1
    exact k W H σ e Q b sr hb fun W' H' g => h W' H' (g.sr sr) (g.fx sr)
  · exact h.elim
theorem tm_cmp {op : CmpOp} {g : D → D → Option RV} (ho : Op2 X (compareOp op) g) (ha : PM X Wx a fa) (hb : PM X Wx b fb) (hm : behindInMarks op b = false := by first | exact nomark _ | with_unfolding_all rfl) : TM X Wx (.Compare a [op] [b] pos) (m2 g fa fb) := by
  obtain ⟨rl, h1, h2⟩ := ho.run
  obtain ⟨ta, pa, ka⟩ := ha.run
  obtain ⟨tb, pb, kb⟩ := hb.run
  refine ⟨_, pt_cmpR h1 pa pb hm, fun W H σ e Q sr h => ?_⟩
  have h' : OutK X.K X.mg Wx W H σ e (fun v H' => ∃ b, v = .bl b ∧ Q b H') (m2 g fa fb e) := by
    revert h
    generalize m2 g fa fb e = o
    intro h
    cases o with
    | stuck => exact h
    | ex x e1 => exact h
    | ok s e1 =>
      obtain ⟨b, rfl, h⟩ := h
      exact fun v W' H' sr' x r _ => ⟨b, r, h W' H' sr' x⟩
  refine ka W H σ e _ sr (DK.bind sr.wm h' fun d v e1 W1 H1 sr1 x1 r1 h1' => kb W1 H1 σ e1 _ sr1 (DK.bind sr1.wm h1' fun d2 u e2 W2 H2 sr2 x2 r2 h2' => ?_))
  obtain ⟨r, er, kq⟩ := OutK.rvo sr2 h2'
  exact h2 W2 H2 v u d d2 r _ sr2.wm (.of (Rp.mono (x2.ex sr1) d r1)) (.of r2) er kq
theorem BK.go {W W1 : List Addr} {K : PySem.W.Frag} {mg : Str → Option Value} {H H1 : Hp} {σ : St} {e e1 : En} {Q : Bool → Hp → Prop} (x : EX W H σ e W1 H1 σ e1) : ∀ {o : Out}, BK K mg Wx W H σ e Q o → BK K mg Wx W1 H1 σ e1 Q o
  | .stuck, h => h
  | .ok s e', ⟨b, eb, h⟩ => ⟨b, eb, fun W' H' sr y => h W' H' sr (x.trans y)⟩
  | .ex z e', h => fun c d W' H' sr y r => h c d W' H' sr (x.trans y) r
structure WM' (X : Cx) (Wx : WX) (ex : Expr) (f : FM) : Prop where
  run : ∃ t : TT, PW X ex t ∧ ∀ (W : List Addr) (H : Hp) (σ : St) (e : En) (Q : Bool → Hp → Prop), SR W X.K H σ e → BK X.K X.mg Wx W H σ e Q (f e) → t σ H Q
@[simp] def tmNext (fa : FM) (f : Bool → FM) : FM := fun e => match fa e with
  | .ok (.d (.bl b)) e1 => f b e1
  | .ex x e1 => .ex x e1
  | _ => .stuck
theorem BK.next {W : List Addr} {H : Hp} {σ : St} {e : En} {Q : Bool → Hp → Prop} {Q0 : Bool → Hp → Prop} {f : Bool → FM} (h : BK X.K X.mg Wx W H σ e Q (tmNext fa f e))
    (k : ∀ b e1 W1 H1, SR W1 X.K H1 σ e1 → BK X.K X.mg Wx W1 H1 σ e1 Q (f b e1) → Q0 b H1) : BK X.K X.mg Wx W H σ e Q0 (fa e) := by
  unfold tmNext at h
  revert h
  generalize fa e = o
  intro h
  cases o with
  | stuck => exact h
  | ex x e1 => exact h
  | ok s e1 =>
    cases s with
    | lst xs => exact h.elim
    | d y =>
      cases y with
      | bl b => exact ⟨b, rfl, fun W1 H1 sr1 x1 => k b e1 W1 H1 sr1 (BK.go (o := f b e1) x1 h)⟩
      | _ => exact h.elim
@[simp] def tmAnd (fa fb : FM) : FM := tmNext fa fun b e1 => if b = true then fb e1 else .ok (.d (.bl false)) e1
@[simp] def tmOr (fa fb : FM) : FM := tmNext fa fun b e1 => if b = true then .ok (.d (.bl true)) e1 else fb e1
@[simp] def tmNot (fa : FM) : FM := tmNext fa fun b e1 => .ok (.d (.bl (!b))) e1
theorem BK.tf {W : List Addr} {K : PySem.W.Frag} {mg : Str → Option Value} {H : Hp} {σ : St} {e : En} {Q : Bool → Hp → Prop} {b : Bool} (sr : SR W K H σ e) (h : BK K mg Wx W H σ e Q (.ok (.d (.bl b)) e)) : Q b H := by
  obtain ⟨b', e1, h⟩ := h
  cases e1
  exact h W H sr .refl
@[simp] def sIf (fc : FM) (f g : FS) : FS := fun e => match fc e with
  | .ok (.d (.bl b)) e1 => if b = true then f e1 else g e1
  | .ex x e1 => .ex x e1
  | _ => .stuck
theorem sd_if {fc : FM} (hc : TM X Wx c fc) (ha : SDs X Wx lk sts f) (hb : SDs X Wx lk sts2 g) : SD X Wx lk (.If c sts sts2 pos) (sIf fc f g) := by
  obtain ⟨t, p, kc⟩ := hc.run
  obtain ⟨ua, pa, ka⟩ := ha.run
  obtain ⟨ub, pb, kb⟩ := hb.run
  refine SD.of ⟨_, ps_if p pa pb, fun W H σ e D sr h => kc W H σ e _ sr ?_⟩
  unfold sIf at h
  revert h
  generalize fc e = o
  intro h
  cases o with
  | stuck => exact h
  | ex x e1 => exact fun c d W' H' sr' x' r => h c d W' H' σ sr' x' (fun _ _ => rfl) r
  | ok s e1 =>
    cases s with
    | lst xs => exact h.elim
    | d y =>
      cases y with
      | bl b =>
        refine ⟨b, rfl, fun W1 H1 sr1 x1 => ?_⟩
        have h' := FlK.go x1 (fun _ _ => rfl) h
        cases b with
        | true => exact ka W1 H1 σ e1 D sr1 h'
        | false => exact kb W1 H1 σ e1 D sr1 h'
      | _ => exact h.elim
/-! ### while -/
def whileF (fc : FM) (fb : FS) : Nat → FS
  | 0, _ => .stuck
  | n + 1, e => match fc e with
    | .ok (.d (.bl b)) e1 => if b = true then (match fb e1 with
      | .nx e2 => whileF fc fb n e2
      | .ct e2 => whileF fc fb n e2
      | .bk e2 => .nx e2
      | o => o) else .nx e1
    | .ex x e1 => .ex x e1
    | _ => .stuck
theorem sd_while {fc : FM} {fb : FS} (n : Nat) (hp : PassesOwn (model X.prog X.w) X.A X.env X.xe) (hc : TM X Wx c fc) (hb : SDs X Wx lk sts fb) : SD X Wx lk (.While c sts [] pos) (whileF fc fb n) := by
  obtain ⟨t, p, kc⟩ := hc.run
  obtain ⟨u, pb, kb⟩ := hb.run
  refine SD.of ⟨_, ps_while hp p pb, fun W H σ e D sr h => ?_⟩
  refine ⟨fun n σ2 H2 => ∃ W2 e2, SR W2 X.K H2 σ2 e2 ∧ FlK X.K X.mg Wx lk W2 H2 σ2 e2 D (whileF fc fb n e2), ⟨n, W, e, sr, h⟩, ?_⟩
  rintro m σ2 H2 ⟨W2, e2, sr2, h2⟩
  cases m with
  | zero => exact h2.elim
  | succ m =>
    refine kc W2 H2 σ2 e2 _ sr2 ?_
    unfold whileF at h2
    revert h2
    generalize fc e2 = o
    intro h2
    cases o with
    | stuck => exact h2
    | ex x e1 => exact fun c d W' H' sr' x' r => h2 c d W' H' σ2 sr' x' (fun _ _ => rfl) r
    | ok s e1 =>
      cases s with
      | lst xs => exact h2.elim
      | d y =>
        cases y with
        | bl b =>
          refine ⟨b, rfl, fun W3 H3 sr3 x3 => ?_⟩
          have h3 := FlK.go x3 (fun _ _ => rfl) h2
          cases b with
          | false => exact iteF (h3 W3 H3 σ2 sr3 .refl fun _ _ => rfl)
          | true =>
            refine iteT ⟨fun σ' H' => ∃ W4 e4, SR W4 X.K H' σ' e4 ∧ FlK X.K X.mg Wx lk W4 H' σ' e4 D (whileF fc fb m e4), fun σ' H' q => ⟨m, Nat.lt_succ_self m, q⟩, kb W3 H3 σ2 e1 _ sr3 ?_⟩
            have h3 : FlK X.K X.mg Wx lk W3 H3 σ2 e1 D (match fb e1 with
              | .nx e2 => whileF fc fb m e2
              | .ct e2 => whileF fc fb m e2
              | .bk e2 => .nx e2
              | o => o) := h3
            revert h3
            generalize fb e1 = fl
            intro h3
            cases fl with
            | stuck => exact h3
            | nx e4 => exact fun W4 H4 σ4 sr4 x4 l4 => ⟨W4, e4, sr4, FlK.go x4 l4 h3⟩
            | ct e4 => exact fun W4 H4 σ4 sr4 x4 l4 => ⟨W4, e4, sr4, FlK.go x4 l4 h3⟩
            | bk e4 => exact h3
            | rt s e4 => exact h3
            | ex x e4 => exact h3
        | _ => exact h2.elim
/-! ### for -/
@[simp] def forL (bind : FG) (fb : FS) : List D → FS
  | [], e => .nx e
  | d :: ds, e => match bind d e with
    | none => .stuck
    | some e1 => match fb e1 with
      | .nx e2 => forL bind fb ds e2
      | .ct e2 => forL bind fb ds e2
      | .bk e2 => .nx e2
      | o => o
@[simp] def sFor (fi : FI) (bind : FG) (fb : FS) : FS := fun e => match fi e with
  | some (ds, true) => forL bind fb ds e
  | _ => .stuck
theorem sd_for {tg iter : Expr} {vs : List Nat} {fi : FI} {bind : FG} {fb : FS} (hp : PassesOwn (model X.prog X.w) X.A X.env X.xe) (hc : X.calm = true) (hi : IP X tg iter fi) (hg : GP X tg vs bind) (hb : SDs X Wx lk sts fb) (hlk : ∀ j ∈ lk, j ∉ vs := by decide)
    (hs : ∀ x, foldedSetIterable iter X.env x = pure x := by intro _; rfl) : SD X Wx lk (.For tg iter sts [] pos) (sFor fi bind fb) := by
  obtain ⟨u, pb, kb⟩ := hb.run
  refine SD.of ⟨_, ps_for (g := tG tg X.K vs bind) hp hc hi.pi hg.pg pb hs, fun W H σ e D sr h => ?_⟩
  unfold sFor at h
  split at h
  rotate_left
  · exact h.elim
  rename_i ds hds
  refine ⟨W, e, ds, true, sr, hds, fun J W1 H1 g1 it => ?_⟩
  refine ⟨fun i m σ2 H2 => m = ds.length - i ∧ i ≤ ds.length ∧ ∃ W2 e2, SR W2 X.K H2 σ2 e2 ∧ Ex W1 H1 W2 H2 ∧ FlK X.K X.mg Wx lk W2 H2 σ2 e2 D (forL bind fb (ds.drop i) e2), ⟨ds.length, rfl, Nat.zero_le _, W1, e, g1.sr sr, .refl g1.wm, FlK.go (g1.fx sr) (fun _ _ => rfl) h⟩, ?_⟩
  rintro i m σ2 H2 ⟨rfl, hle, W2, e2, sr2, x2, h2⟩
  have I2 := it W2 H2 (.inr ⟨rfl, x2, sr2.wm⟩)
  by_cases hlt : i < ds.length
  · refine .inr ?_
    obtain ⟨d, hd⟩ : ∃ d, ds[i]? = some d := ⟨ds[i], List.getElem?_eq_getElem hlt⟩
    obtain ⟨hgo, hy⟩ := I2.1 i d hd
    refine ⟨hgo, fun σ' H' => ∃ W4 e4, SR W4 X.K H' σ' e4 ∧ Ex W1 H1 W4 H' ∧ FlK X.K X.mg Wx lk W4 H' σ' e4 D (forL bind fb (ds.drop (i + 1)) e4), fun σ' H' q => ⟨ds.length - (i + 1), by omega, rfl, hlt, q⟩, fun x H3 y => ?_⟩
    obtain ⟨kp, rp⟩ := hy x H3 y
    have ed : ds.drop i = d :: ds.drop (i + 1) := by
      rw [List.drop_eq_getElem_cons hlt]
      rw [List.getElem?_eq_getElem hlt] at hd
      cases hd
      rfl
    rw [ed] at h2
    unfold forL at h2
    split at h2
    · exact h2.elim
    rename_i e1 he1
    have g3 : Grow X.K W2 H2 W2 H3 := .of sr2.wm kp
    have sr3 := g3.sr sr2
    refine ⟨W2, e2, d, e1, sr3, rp, he1, fun σ1 sr1 l1 a1 o1 => kb W2 H3 σ1 e1 _ sr1 ?_⟩
    have x3 : EX W2 H2 σ2 e2 W2 H3 σ1 e1 := (g3.fx sr2).trans (EX.shrink o1)
    have xx : Ex W1 H1 W2 H3 := x2.trans (g3.ex sr2.wm)
    have h3 := FlK.go x3 (fun j hj => a1 j (hlk j hj)) h2
    revert h3
    generalize fb e1 = fl
    intro h3
    cases fl with
    | stuck => exact h3
    | nx e4 => exact fun W4 H4 σ4 sr4 x4 l4 => ⟨W4, e4, sr4, xx.trans (x4.ex sr1), FlK.go x4 l4 h3⟩
    | ct e4 => exact fun W4 H4 σ4 sr4 x4 l4 => ⟨W4, e4, sr4, xx.trans (x4.ex sr1), FlK.go x4 l4 h3⟩
    | bk e4 => exact h3
    | rt s e4 => exact h3
    | ex x e4 => exact h3
  · have ei : i = ds.length := by omega
    subst ei
    rw [List.drop_length] at h2
    exact .inl ⟨I2.2, h2 W2 H2 σ2 sr2 .refl fun _ _ => rfl⟩
/-! ### a, b = x, y -/
@[simp] def OA.st (o : OA) (f : List AR → FS) : Fl := match o with
  | .stuck => .stuck
  | .ok as e => f as e
  | .ex x e => .ex x e
@[simp] def AR.s? : AR → Option S
  | .fz x => some (.d x)
  | .ow xs => some (.lst xs)
  | .bw _ => none
@[simp] def put2' (i j n : Nat) (u v : Option S) (e : En) : Fl := match u, v with
  | some u, some v => if n ≤ 1 ∧ i < e.length ∧ j < e.length then .nx ((e.set i (some u)).set j (some v)) else .stuck
  | _, _ => .stuck
@[simp] def put2 (i j : Nat) : List AR → FS := fun as e => match as with
  | [r, s] => put2' i j (ows [r, s]) r.s? s.s? e
  | _ => .stuck
theorem put2_ok (i j : Nat) (as : List AR) (e : En) : put2 i j as e = .stuck ∨ ∃ r s u w, as = [r, s] ∧ r.s? = some u ∧ s.s? = some w ∧ (ows [r, s] ≤ 1 ∧ i < e.length ∧ j < e.length) ∧ put2 i j as e = .nx ((e.set i (some u)).set j (some w)) := by
  match as with
  | [] => exact .inl rfl
  | [_] => exact .inl rfl
  | _ :: _ :: _ :: _ => exact .inl rfl
  | [r, s] =>
    show put2' i j (ows [r, s]) r.s? s.s? e = .stuck ∨ _
    cases hu : r.s? with
    | none => exact .inl rfl
    | some u =>
      cases hv : s.s? with
      | none => exact .inl rfl
      | some v =>
        by_cases hc : ows [r, s] ≤ 1 ∧ i < e.length ∧ j < e.length
        · exact .inr ⟨r, s, u, v, rfl, hu, hv, hc, by show put2' i j (ows [r, s]) r.s? s.s? e = _; rw [hu, hv]; exact if_pos hc⟩
        · exact .inl (if_neg hc)
@[simp] def sPar (i j : Nat) (fs : FAR) : FS := fun e => (fs e).st (put2 i j)
theorem ARok.rs {H0 : Hp} {W : List Addr} {K : PySem.W.Frag} {H : Hp} {σ : St} {e : En} : ∀ {r : AR} {v : V} {s : S}, ARok H0 W K H σ e r v → r.s? = some s → RS W K H s v ∧ (s.own = true → ∀ a, v = .ref a → H0 a = none ∧ ¬ Ow σ e a)
  | .fz x, v, s, h, q => by cases q; exact ⟨h, fun z => nomatch z⟩
  | .ow xs, v, s, ⟨a, vs, ev, h0, h1, h2, h3, h4⟩, q => by
    cases q
    refine ⟨⟨a, vs, ev, h1, h2, h3⟩, fun _ b eb => ?_⟩
    rw [ev] at eb
    cases eb
    exact ⟨h0, h4⟩
  | .bw i, v, s, h, q => by cases q
theorem sd_par (i j : Nat) {x y : Str} {px py pt : Pos} {kt k2 : Nat} {pt2 : Pos} {fs : FAR} (hc : X.calm = true) (ha : ARJ X Wx [a, b] fs) (hN : X.N.Nodup)
    (hw : swappedStores [.Tuple [.Name x px, .Name y py] kt pt] (.Tuple [a, b] k2 pt2) X.env = pure (some [x, y]))
    (hli : i ∉ lk := by decide) (hlj : j ∉ lk := by decide) (hi : X.N[i]? = some x := by rfl) (hj : X.N[j]? = some y := by rfl) (hij : i ≠ j := by decide)
    (hx : X.env.scope.names.lookup x = some .local := by rfl) (hy : X.env.scope.names.lookup y = some .local := by rfl)
    (hs : swapsWithSole [.Tuple [.Name x px, .Name y py] kt pt] (.Tuple [a, b] k2 pt2) pos.line X.env = pure false := by rfl) :
    SD X Wx lk (.Assign [.Tuple [.Name x px, .Name y py] kt pt] (.Tuple [a, b] k2 pt2) pos) (sPar i j fs) := by
  obtain ⟨t, p, k⟩ := ha.run
  refine SD.of ⟨_, ps_par hc hN hi hj hij hx hy p hw hs, fun W H σ e D sr h => k W H σ e _ sr ?_⟩
  unfold sPar at h
  revert h
  generalize fs e = o
  intro h
  cases o with
  | stuck => exact h
  | ex z e1 => exact fun c d W' H' sr' x' r => h c d W' H' σ sr' x' (fun _ _ => rfl) r
  | ok as e1 =>
    intro vs W1 H1 sr1 x1 ar
    have h : FlK X.K X.mg Wx lk W H σ e D (put2 i j as e1) := h
    rcases put2_ok i j as e1 with q | ⟨r, s, u, w, rfl, hu, hv, hz, q⟩
    · rw [q] at h
      exact h.elim
    rw [q] at h
    obtain ⟨v, us, rfl, ar1, v', us', rfl, ar2, en⟩ := ar
    cases (show us' = [] from en)
    obtain ⟨r1, f1⟩ := ar1.rs hu
    obtain ⟨r2, f2⟩ := ar2.rs hv
    obtain ⟨s2, x2⟩ := store_own sr.wm sr1 x1 r1 f1 hz.2.1
    have f2' : w.own = true → ∀ a, v' = .ref a → H a = none ∧ ¬ Ow (σ.set i (some v)) (e1.set i (some u)) a := by
      intro wo a ea
      refine ⟨(f2 wo a ea).1, ?_⟩
      cases u with
      | d y => exact fun z => (f2 wo a ea).2 (z.setD hz.2.1)
      | lst ys =>
        exfalso
        cases r with
        | fz x => cases hu
        | bw k => cases hu
        | ow zs =>
          cases s with
          | fz x => cases hv; cases wo
          | bw k => cases hv
          | ow qs => exact absurd hz.1 (by show ¬ (0 + 1 + 1 ≤ 1); omega)
    obtain ⟨s3, x3⟩ := store_own (i := j) sr.wm s2 x2 r2 f2' (by rw [List.length_set]; exact hz.2.2)
    refine ⟨v, v', rfl, h W1 H1 _ s3 x3 fun l hl => ?_⟩
    rw [List.getElem?_set_ne fun (z : j = l) => hlj (by rw [z]; exact hl), List.getElem?_set_ne fun (z : i = l) => hli (by rw [z]; exact hl)]
end

/-! ## targets that change lists: a[i] = .. -/
def tGe (K : PySem.W.Frag) (lk : List Nat) (f : FG) : TG := fun v σ H Q => ∃ (W : List Addr) (e : En) (d : D) (e' : En), SR W K H σ e ∧ Rp W K H d v ∧ f d e = some e' ∧
  ∀ W' H' σ', SR W' K H' σ' e' → EX W H σ e W' H' σ' e' → (∀ j ∈ lk, σ'[j]? = σ[j]?) → Q σ' H'
structure GE (X : Cx) (tg : Expr) (lk : List Nat) (f : FG) : Prop where
  pg : PG X tg (tGe X.K lk f)
def tGes (K : PySem.W.Frag) (lk : List Nat) (f : List D → En → Option En) : TGs := fun us σ H Q => ∃ (W : List Addr) (e : En) (ds : List D) (e' : En), SR W K H σ e ∧ RpL W K H ds us ∧ f ds e = some e' ∧
  ∀ W' H' σ', SR W' K H' σ' e' → EX W H σ e W' H' σ' e' → (∀ j ∈ lk, σ'[j]? = σ[j]?) → Q σ' H'
structure GEs (X : Cx) (ts : List Expr) (lk : List Nat) (f : List D → En → Option En) : Prop where
  pgs : PGs X ts (tGes X.K lk f)
section
variable {X : Cx} {Wx : WX} {lk : List Nat} {a : Expr} {fa : FM} {pos : Pos}
theorem ge_gp {tg : Expr} {vs : List Nat} {f : FG} (h : GP X tg vs f) (hlk : ∀ j ∈ lk, j ∉ vs := by decide) : GE X tg lk f :=
  ⟨⟨fun pins s σ H v u Q I r ⟨W, e, d, e', sr, rp, hf, k⟩ => h.pg.run pins s σ H v u Q I r ⟨W, e, d, e', sr, .of rp, hf, fun σ' sr' l' a' o' => k W H σ' sr' (EX.shrink o') fun j hj => a' j (hlk j hj)⟩⟩⟩
/-- slot i's list at index .. -/
@[simp] def gSet (i : Nat) (fi : FP) : FG := fun d e => match e[i]? with
  | some (some (.lst xs)) => (fi e).bind fun r => r.i?.bind fun k => (ixN xs.length k).map fun j => e.set i (some (.lst (xs.set j d)))
  | _ => none
theorem ge_sub (i : Nat) {x : Str} {px : Pos} {ix : Expr} {fi : FP} (hi : PP X ix fi) (hN : X.N[i]? = some x := by rfl) (hv : Vis X.env.scope x := by first | exact Or.inl rfl | exact Or.inr (Or.inl rfl) | exact Or.inr (Or.inr rfl)) (hd : (x == ("__debug__" : Str)) = false := by decide)
    (hcd : (x == ("__classdict__" : Str)) = false := by decide)
    (has : ∀ v, assign (.Subscript (.Name x px) ix pos) X.env v = (do
      let ov ← holding [v] (eval (.Name x px) X.env)
      let iv ← holding [v, ov] (eval ix X.env)
      standAt pos
      holding [v, ov, iv] (setItem ov iv v)
      release [v, ov, iv] []) := by intro _; rfl) : GE X (.Subscript (.Name x px) ix pos) lk (gSet i fi) := by
  obtain ⟨ti, pi, ki⟩ := hi.run
  refine ⟨⟨fun pins s σ H v u Q I r ⟨W, e, d, e', sr, rp, hf, k⟩ => (pg_sub (pe_var hN hv hd hcd) pi set_list has).run pins s σ H v u Q I r ?_⟩⟩
  unfold gSet at hf
  split at hf
  rotate_left
  · cases hf
  rename_i xs hx
  obtain ⟨rv, e1, hf⟩ := Option.bind_eq_some_iff.mp hf
  obtain ⟨kk, e2, hf⟩ := Option.bind_eq_some_iff.mp hf
  obtain ⟨j, e3, ef⟩ := Option.map_eq_some_iff.mp hf
  have e4 := RV.i?_ok e2
  subst e4
  subst ef
  obtain ⟨l, vs, q1, q2, q3, q4⟩ := sr.hit hx
  refine ⟨_, q1, ki W H σ e _ _ sr e1 fun iv W1 H1 g1 k1 => ?_⟩
  have sr1 := g1.sr sr
  have at1 := g1.keep _ _ q3 rfl
  have rp1 := Rp.mono (g1.ex sr.wm) d rp
  have rx1 := RpL.mono (g1.ex sr.wm) xs q4
  obtain ⟨s2, x2⟩ := sr1.setL hx q1 (g1.sub _ q2) (rx1.set j rp1)
  exact ⟨l, vs, kk, j, rfl, k1, at1, by rw [← rx1.length]; exact e3, k W1 _ σ s2 ((g1.fx sr).trans x2) fun _ _ => rfl⟩
theorem ges_nil : GEs X [] lk gsNil := by
  refine ⟨⟨fun pins s σ H us vals Q I r ⟨W, e, ds, e', sr, rp, hfd, k⟩ => ?_⟩⟩
  cases ds with
  | nil =>
    cases (show us = [] from rp)
    cases hfd
    exact pgs_nil.run pins s σ H [] vals Q I r ⟨rfl, k W H σ sr .refl fun _ _ => rfl⟩
  | cons d r => cases hfd
theorem ges_cons {t : Expr} {es : List Expr} {f : FG} {fs : List D → En → Option En} (h1 : GE X t lk f) (h2 : GEs X es lk fs)
    (hs : (assignEach (t :: es) X.env).map (·.2) = assign t X.env :: (assignEach es X.env).map (·.2) := by rfl) : GEs X (t :: es) lk (gsCons f fs) := by
  refine ⟨⟨fun pins s σ H us vals Q I r ⟨W, e, ds, e', sr, rp, hfd, k⟩ => ?_⟩⟩
  cases ds with
  | nil => cases hfd
  | cons d ds =>
    obtain ⟨v, ur, rfl, p1, p2⟩ := rp
    obtain ⟨e1, he1, hfd⟩ := Option.bind_eq_some_iff.mp hfd
    refine (pgs_cons h1.pg h2.pgs hs).run pins s σ H _ vals Q I r ⟨v, ur, rfl, W, e, d, e1, sr, p1, he1, fun W1 H1 σ1 sr1 x1 l1 => ?_⟩
    exact ⟨W1, e1, ds, e', sr1, RpL.mono (x1.ex sr) ds p2, hfd, fun W2 H2 σ2 sr2 x2 l2 => k W2 H2 σ2 sr2 (x1.trans x2) fun j hj => (l2 j hj).trans (l1 j hj)⟩
theorem ge_tup {es : List Expr} {k : Nat} {p : Pos} {fs : List D → En → Option En} {n : Nat} (hc : X.calm = true) (h : GEs X es lk fs) (hn : (assignEach es X.env).length = n := by rfl) (hst : (assignEach es X.env).findIdx? (·.1) = none := by rfl) :
    GE X (.Tuple es k p) lk (gTp n fs) := by
  refine ⟨⟨fun pins s σ H v u Q I r ⟨W, e, d, e', sr, rp, hfd, kk⟩ => ?_⟩⟩
  cases d with
  | tup xs =>
    have hfd' : (if xs.length = n then fs xs e else none) = some e' := hfd
    split at hfd'
    · rename_i hl
      obtain ⟨a, us, e1, q1, q2⟩ := rp
      exact (pg_tup hc h.pgs hn hst).run pins s σ H v u Q I r ⟨a, us, e1, q1.1, by rw [← q2.length]; exact hl, W, e, xs, e', sr, q2, hfd', kk⟩
    · cases hfd'
  | _ => cases hfd
@[simp] def sAsg (fa : FM) (f : FG) : FS := fun e => (fa e).st fun s e1 => match f s.view e1 with
  | some e2 => .nx e2
  | none => .stuck
theorem sd_asg {tg : Expr} {f : FG} (ha : PM X Wx a fa) (hg : GE X tg lk f) (hs : swapsWithSole [tg] a pos.line X.env = pure false := by rfl) (hw : swappedStores [tg] a X.env = pure none := by rfl)
    (h1 : (assignEach [tg] X.env).map (·.2) = [assign tg X.env] := by rfl) : SD X Wx lk (.Assign [tg] a pos) (sAsg fa f) := by
  obtain ⟨t, p, k⟩ := ha.run
  refine SD.of ⟨_, ps_asg p hg.pg hs hw h1, fun W H σ e D sr h => k W H σ e _ sr (DK.st sr.wm h fun s v e1 W1 H1 sr1 x1 r h1 => ?_)⟩
  split at h1
  · rename_i e2 he
    exact ⟨W1, e1, s.view, e2, sr1, r, he, fun W' H' σ' sr' x' l' => h1 W' H' σ' sr' x' l'⟩
  · exact h1.elim
end
end DL

set_option maxHeartbeats 2000000
namespace DL
open PySem PySem.Spec PyProof.Rows L2

/-! ## repr -/
section
variable {X : Cx}
def gRepr : List D → Option RV
  | [x] => (match x with
    | .tup _ => if x.okp = true ∧ x.py.showable = true ∧ x.py.depth ≤ 100 ∧ x.py.shown.length ≤ SZ then some (.fz (.str x.py.shown)) else none
    | .lst _ => if x.okp = true ∧ x.py.showable = true ∧ x.py.depth ≤ 100 ∧ x.py.shown.length ≤ SZ then some (.fz (.str x.py.shown)) else none
    | _ => none)
  | _ => none
mutual
theorem D.noDict : ∀ d : D, d.okp = true → d.py.hasDict = false
  | .non, _ => rfl
  | .bl _, _ => rfl
  | .int _, _ => rfl
  | .str _, _ => rfl
  | .tup xs, o => by show (PyData.tuple (pyL xs)).hasDict = false; simp only [PyData.hasDict]; exact noDictL xs o
  | .lst xs, o => by show (PyData.list (pyL xs)).hasDict = false; simp only [PyData.hasDict]; exact noDictL xs o
  | .ro xs, o => by show (PyData.list (pyL xs)).hasDict = false; simp only [PyData.hasDict]; exact noDictL xs o
theorem noDictL : ∀ ds : List D, okpL ds = true → PyData.hasDictAll (pyL ds) = false
  | [], _ => by unfold pyL; simp only [PyData.hasDictAll]
  | d :: ds, o => by
    obtain ⟨o1, o2⟩ := Bool.and_eq_true_iff.mp (show (d.okp && okpL ds) = true from o)
    unfold pyL
    simp only [PyData.hasDictAll, D.noDict d o1, noDictL ds o2, Bool.or_false]
end
def rRepr (K : PySem.W.Frag) : List V → Hp → VK → Prop := fun xs H Q => ∃ (a : Addr) (d : PyData), xs = [.ref a] ∧ Dp K H (.ref a) d ∧ d.showable = true ∧ d.hasDict = false ∧ d.depth ≤ 100 ∧ d.shown.length ≤ sizeLine ∧ Q (.str d.shown) H
theorem call_reprD (hg : X.A.guards = some []) (hu : X.A.units + 110 < cLine) : CallR X (.builtin "repr") (rRepr X.K) := by
  intro pins s σ H xs us Q I r h
  obtain ⟨a, d, rfl, dp, hs, hd, hp, hz, q⟩ := h
  cases r with
  | cons r rr =>
    cases rr
    obtain ⟨as, rd⟩ := Dp.reads I d _ _ dp r
    cases r
    refine repr_of_reads' rd hs (PyData.noDict_hsm hd) hg (by omega) (fun _ _ e => e) (fun h' u tk k => ?_) hz
    exact ⟨.str d.shown, H, I.kept (t' := tk) k, ⟨u, rfl⟩, q⟩
theorem c_repr (hg : X.A.guards = some []) (hu : X.A.units + 110 < cLine) : Ca X (.builtin "repr") gRepr := by
  refine ⟨_, call_reprD hg hu, fun W H xs ds r Q wm hx hgr k => ?_⟩
  have main : ∀ x : D, VzL W X.K H [x] xs → (∃ v, xs = [v] ∧ ∃ a, v = .ref a) → (if x.okp = true ∧ x.py.showable = true ∧ x.py.depth ≤ 100 ∧ x.py.shown.length ≤ SZ then some (RV.fz (.str x.py.shown)) else none) = some r → rRepr X.K xs H Q := by
    intro x hx ⟨v, ev, a, ea⟩ hgr
    split at hgr
    · rename_i hz
      cases hgr
      obtain ⟨v', e1, h⟩ := hx.one
      rw [ev] at e1
      cases e1
      have dp := Vz.dp hz.1 h
      subst ea
      exact ⟨a, x.py, ev, dp, hz.2.1, D.noDict x hz.1, hz.2.2.1, by rw [SZ_eq]; exact hz.2.2.2, k.fz wm rfl⟩
    · cases hgr
  unfold gRepr at hgr
  split at hgr
  rotate_left
  · cases hgr
  split at hgr
  · refine main _ hx ?_ hgr
    obtain ⟨v, e1, a, vs, e2, _⟩ := hx.one
    exact ⟨v, e1, a, e2⟩
  · refine main _ hx ?_ hgr
    obtain ⟨v, e1, a, vs, e2, _⟩ := hx.one
    exact ⟨v, e1, a, e2⟩
  · cases hgr
end

/-! ## methods of texts, of the module's tuples -/
section
variable {X : Cx} {o a : Expr} {fo : FP} {fs : FA} {es : List Expr} {apos cpos : Pos} {m : Str}
structure MtS (X : Cx) (id : String) (g : Str → List D → Option RV) : Prop where
  run : ∃ r : V → List V → Hp → VK → Prop, MtR X id r ∧ ∀ (W : List Addr) (H : Hp) (z : Str) (ds : List D) (xs : List V) (rv : RV) (Q : VK), WM W H → VzL W X.K H ds xs → g z ds = some rv → KQ W X.K H rv Q → r (.str z) xs H Q
@[simp] def RV.s? : RV → Option Str
  | .fz (.str b) => some b
  | _ => none
@[simp] def pSm (g : Str → List D → Option RV) (fo : FP) (fs : FA) : FP := fun e => (fo e).bind fun r => r.s?.bind fun z => (fs e).bind fun rs => g z (rs.map RV.view)
def gJoin (z : Str) : List D → Option RV
  | [.lst xs] => (strs? xs).bind fun ys => if (ys.map (·.length)).sum + ys.length * z.length ≤ SZ then some (.fz (.str (Txt.join z ys))) else none
  | [.tup xs] => (strs? xs).bind fun ys => if (ys.map (·.length)).sum + ys.length * z.length ≤ SZ then some (.fz (.str (Txt.join z ys))) else none
  | _ => none
@[simp] def gSindex (z : Str) : List D → Option RV
  | [.str b] => (Builtin.Str.occurrences z b 0 z.length 1).head?.map fun i => .fz (.int (i : Nat))
  | _ => none
/-- a tuple of whole numbers that the module holds -/
def rTI (K : PySem.W.Frag) : V → List V → Hp → VK → Prop := fun x xs H Q => ∃ (p : Addr) (ns : List Int) (i : Int), x = .ref p ∧ xs = [.int i] ∧ SqT K H p (ns.map V.int) ∧ i ∈ ns ∧ Q (.int (ns.idxOf i : Nat)) H
@[simp] def pTi (ns : List Int) (fa : FP) : FP := fun e => (fa e).bind fun r => r.i?.bind fun i => if i ∈ ns then some (.fz (.int (ns.idxOf i : Nat))) else none
end
end DL

set_option maxHeartbeats 2000000
namespace DL
open PySem PySem.Spec PyProof.Rows L2

/-! ## x[::-1] -/
section
variable {prog : Program} {w : World} {A : Around} {E : Value → Shared → Prop} {s : Shared}
theorem places_rev (n : Nat) : Builtin.Slice.slicePlaces ((n : Int) - 1) (-1) (-1) = n := by
  unfold Builtin.Slice.slicePlaces
  have h1 : ¬ ((-1 : Int) > 0) := by decide
  simp only [h1, if_false]
  split
  · rw [show (- -1 : Int) = 1 by decide, Int.ediv_one]
    omega
  · omega
theorem applied_rev {sl : Addr} {vl vu vs : Value} {n : Nat} {Q : Int × Int × Nat → Shared → Prop} (hs : s.heap.IsSliceOf sl vl vu vs) (pl : IsPart vl none) (pu : IsPart vu none) (ps : IsPart vs (some (-1)))
    (h : Q ((n : Int) - 1, -1, n) s) : wpAny (model prog w) A (Builtin.Slice.sliceApplied (.ref sl) (pure (n : Int))) Q E s := by
  obtain ⟨os, hos, hcs, hds⟩ := id hs
  unfold Builtin.Slice.sliceApplied Builtin.Slice.sliceFields
  refine wpAny_bind (wpAny_bind (wpAny_field hos hds (x := vl) rfl (wpAny_bind (wpAny_field hos hds (x := vu) rfl (wpAny_bind (wpAny_field hos hds (x := vs) rfl (wpAny_pure ?_)))))))
  refine wpAny_bind (HT.slicePart_ ps ?_)
  show wpAny _ _ (if ((-1 : Int) == 0) = true then _ else _) _ _ s
  rw [if_neg (by decide)]
  refine wpAny_bind (HT.slicePart_ pl (wpAny_bind (HT.slicePart_ pu (wpAny_bind (wpAny_pure ?_)))))
  show wpAny _ _ (pure ((n : Int) - 1, (-1 : Int), Builtin.Slice.slicePlaces ((n : Int) - 1) (-1) (-1))) _ _ s
  rw [places_rev]
  exact wpAny_pure h
theorem fm_congr {α β : Type} {f g : α → Option β} : ∀ {l : List α}, (∀ a ∈ l, f a = g a) → l.filterMap f = l.filterMap g
  | [], _ => rfl
  | a :: l, h => by rw [List.filterMap_cons, List.filterMap_cons, h a List.mem_cons_self, fm_congr fun b hb => h b (List.mem_cons_of_mem _ hb)]
theorem pick_rev (xs : Array Value) : ((List.range xs.size).filterMap fun (m : Nat) => xs[((xs.size : Int) - 1 + (m : Int) * -1).toNat]?).toArray = xs.toList.reverse.toArray := by
  have e : (List.range xs.size).filterMap (fun (m : Nat) => xs[((xs.size : Int) - 1 + (m : Int) * -1).toNat]?) = ((List.range xs.size).map fun k => xs.size - 1 - k).filterMap (xs[·]?) := by
    rw [List.filterMap_map]
    refine fm_congr fun m hm => ?_
    have := List.mem_range.mp hm
    show xs[((xs.size : Int) - 1 + (m : Int) * -1).toNat]? = xs[xs.size - 1 - m]?
    rw [show ((xs.size : Int) - 1 + (m : Int) * -1).toNat = xs.size - 1 - m from by omega]
  rw [e, PySem.W.krv_range, List.filterMap_reverse, PySem.W.krv_all]
theorem item_tup_rev {t sl : Addr} {items : Array Value} {vl vu vs : Value} {Q : Value → Shared → Prop} (ht : IsTup s.heap t items) (hs : s.heap.IsSliceOf sl vl vu vs) (pl : IsPart vl none) (pu : IsPart vu none) (ps : IsPart vs (some (-1)))
    (h : Q (.ref s.heap.objs.size) { s with heap := s.heap.push { cls := .type "tuple", data := .seq items.toList.reverse.toArray } }) (hsz : items.size ≤ sizeLine) : wpAny (model prog w) A (getItem (.ref t) (.ref sl)) Q E s := by
  have fits : sizeOk (.seq items.toList.reverse.toArray) := by
    show items.toList.reverse.toArray.size ≤ sizeLine
    rw [List.size_toArray, List.length_reverse, Array.length_toList]
    exact hsz
  obtain ⟨os, hos, hcs, hds⟩ := id hs
  have tyS : s.TypeIs (.ref sl) "slice" := ⟨os, hos, hcs⟩
  unfold getItem
  try with_reducible refine wpAny_holding ?_
  first | refine wpAny_bind (wpAny_pure ?_) | skip
  refine wpAny_bind (wpAny_sequenceKey ht.typeIs (by decide) ?_)
  refine wpAny_bind (wpAny_callSpecial?_slot (name := Str.ofString "__getitem__") ht.typeIs PyProof.Rows.slot_tuple_getitem (wpAny_call_entry PyProof.Rows.slot_tuple_getitem ht.typeIs entry_tuple_getitem ?_ (args_tuple_getitem _ _)))
  show wpAny _ _ (Builtin.Tuple.tupleItemsOf (.ref t) >>= _) _ _ s
  refine wpAny_bind (tupleItemsOf_ ht ?_)
  refine wpAny_bind (wpAny_typeOf tyS ?_)
  rw [if_pos (by decide)]
  refine wpAny_bind (applied_rev hs pl pu ps ?_)
  have no1 : ¬ ((((items.size : Int) - 1) == 0 && (-1 : Int) == 1 && items.size == items.size) = true) := by
    intro q
    rw [Bool.and_eq_true, Bool.and_eq_true] at q
    exact absurd (eq_of_beq q.1.2) (by decide)
  show wpAny _ _ (if (((items.size : Int) - 1) == 0 && (-1 : Int) == 1 && items.size == items.size) = true then _ else _) _ _ s
  rw [if_neg no1, pick_rev]
  first
    | exact wpAny_bind (m := Builtin.Tuple.tupleExact _) (wpAny_newObj_type (wpAny_pure ⟨_, rfl, wpAny_pure h⟩) fits)
    | exact wpAny_bind (m := Builtin.Tuple.tupleExact _) (wpAny_newObj_type (wpAny_bind (wpAny_pure (wpAny_pure ⟨_, rfl, wpAny_pure h⟩))) fits)
    | exact wpAny_bind (wpAny_bind (m := Builtin.Tuple.tupleExact _) (wpAny_newObj_type (wpAny_pure (wpAny_pure ⟨_, rfl, wpAny_pure h⟩)) fits))
    | exact wpAny_bind (wpAny_bind (m := Builtin.Tuple.tupleExact _) (wpAny_newObj_type (wpAny_pure ⟨_, rfl, wpAny_pure h⟩) fits))
end
def revS (z : Str) : Str := ⟨z.cps.toList.reverse.toArray⟩
theorem pick_revS (z : Str) : ((Builtin.Str.strSliceIndices none none (-1) z.length).filterMap (z.cps[·]?)).toArray = z.cps.toList.reverse.toArray := by
  rw [PyProof.Rows.picked_rev, PySem.W.krv_range, List.filterMap_reverse]
  show ((List.range z.cps.size).filterMap (z.cps[·]?)).reverse.toArray = _
  rw [PySem.W.krv_all]
section
variable {X : Cx} {e : Expr} {k : Nat} {p1 p2 p3 pos : Pos} {fe : FP}
def tRv (K : PySem.W.Frag) (te : TE) : TE := fun σ H Q => te σ H fun x H1 => (∃ a xs, x = .ref a ∧ SqT K H1 a xs ∧ NewT H1 xs.reverse Q) ∨ (∃ z, x = .str z ∧ z.length ≤ sizeLine ∧ Q (.str (revS z)) H1)
theorem pe_rv {te : TE} (he : PE X e te) : PE X (.Subscript e (.Slice none none (some (.UnaryOp .USub (.Constant (.int 1) k p1) p2)) p3) pos) (tRv X.K te) := by
  refine ⟨fun pins s σ H Q I h => ?_⟩
  refine Subscript_ (thn (he.run pins s σ H _ I h) fun v s1 ⟨x, H1, I1, r1, q1⟩ => ?_)
  have step : PO X (some (.UnaryOp .USub (.Constant (.int 1) k p1) p2)) (tPart (tUn (rU fun i => .int (-i)) (tC (.int 1)))) := po_some (pe_un un_neg pe_int)
  refine wpAny_Slice (thn (po_none.run pins s1 σ H1 (fun o H2 => o = none ∧ H2 = H1) I1 ⟨rfl, rfl⟩) fun vl s2 ⟨l, H2, I2, pl, el, e2⟩ => ?_)
  subst el e2
  refine thn (po_none.run pins s2 σ H2 (fun o H3 => o = none ∧ H3 = H2) I2 ⟨rfl, rfl⟩) fun vu s3 ⟨u, H3, I3, pu, eu, e3⟩ => ?_
  subst eu e3
  refine thn (step.run pins s3 σ H3 (fun o H4 => o = some (-1) ∧ H4 = H3) I3 ⟨1, rfl, -1, rfl, rfl, rfl⟩) fun vs s4 ⟨o, H4, I4, ps, eo, e4⟩ => ?_
  subst eo e4
  have I5 : Inv X pins σ H4 { s4 with heap := s4.heap.push { cls := .type "slice", data := .fields #[vl, vu, vs] } } := I4.kept (t' := s4.toks) fun b ob q => Heap.get?_push_of_some _ q
  have sl : ({ s4 with heap := s4.heap.push { cls := .type "slice", data := .fields #[vl, vu, vs] } } : Shared).heap.IsSliceOf s4.heap.objs.size vl vu vs := Heap.IsSliceOf.new ..
  rcases q1 with ⟨a, xs, ex, hx, q⟩ | ⟨z, ex, hz, q⟩
  · subst ex
    cases r1
    obtain ⟨its, r, ht, hz⟩ := I5.tuple hx
    have hlen := r.length
    show wpAny (model X.prog X.w) X.A (subscriptTail e (.Slice none none (some (.UnaryOp .USub (.Constant (.int 1) k p1) p2)) p3) (.ref a) (.ref s4.heap.objs.size)) (EP X pins σ Q) X.xe { s4 with heap := s4.heap.push { cls := .type "slice", data := .fields #[vl, vu, vs] } }
    refine tail_any (ops := [.ref a, .ref s4.heap.objs.size]) ht.typeIs PyProof.Rows.slot_tuple_getitem.lookup ?_ (by with_unfolding_all rfl)
    refine item_tup_rev ht sl pl pu ps ?_ (by rw [List.size_toArray]; omega)
    exact ep_newT (A := X.A) (its := its.reverse) I5 (fun _ _ e => e) (by rw [List.length_reverse]; exact hz) r.reverse (Nat.le_refl _) q
  · subst ex
    obtain ⟨t, rfl⟩ := r1
    show wpAny (model X.prog X.w) X.A (subscriptTail e (.Slice none none (some (.UnaryOp .USub (.Constant (.int 1) k p1) p2)) p3) (.str z t) (.ref s4.heap.objs.size)) (EP X pins σ Q) X.xe { s4 with heap := s4.heap.push { cls := .type "slice", data := .fields #[vl, vu, vs] } }
    refine tail_any (ops := [.ref s4.heap.objs.size, .str z t]) (typeIs_str _ _ _) F.slot_str_getitem.lookup ?_ (by with_unfolding_all rfl)
    obtain ⟨os, hos, hcs, hds⟩ := sl
    obtain ⟨l1, rfl, g1⟩ := IsPart.raw pl
    obtain ⟨l2, rfl, g2⟩ := IsPart.raw pu
    obtain ⟨l3, rfl, g3⟩ := IsPart.raw ps
    refine wpAny_getItem_str_slice (l := l1) (u := l2) (st := l3) ⟨os, hos, hcs, hds⟩ (by rw [g3]; rfl) ?_
    unfold sliceMade slicePicked
    rw [g1, g2, g3]
    show Made.post (if ((-1 : Int) == 1 && _) = true then _ else Made.str ⟨((Builtin.Str.strSliceIndices none none (-1) z.length).filterMap (z.cps[·]?)).toArray⟩) (EP X pins σ Q) _
    rw [if_neg (by simp), pick_revS]
    have hl : (revS z).length ≤ sizeLine := by
      show z.cps.toList.reverse.toArray.size ≤ sizeLine
      rw [List.size_toArray, List.length_reverse, Array.length_toList]
      exact hz
    exact ⟨hl, .str _, H4, I5.tok _, ⟨_, rfl⟩, q⟩
@[simp] def pRev (fe : FP) : FP := fun e => (fe e).bind fun r => match r.view with
  | .tup xs => some (.fz (.tup xs.reverse))
  | .str z => if z.length ≤ SZ then some (.fz (.str (revS z))) else none
  | _ => none
theorem pp_rev (he : PP X e fe) : PP X (.Subscript e (.Slice none none (some (.UnaryOp .USub (.Constant (.int 1) k p1) p2)) p3) pos) (pRev fe) := by
  obtain ⟨t, p, ke⟩ := he.run
  refine PP.of ⟨_, pe_rv p, fun W H σ e Q r sr hf kk => ?_⟩
  obtain ⟨r1, e1, hy⟩ := Option.bind_eq_some_iff.mp hf
  refine ke W H σ e _ r1 sr e1 fun v W1 H1 g1 k1 => ?_
  have hv := k1.vz
  have k' : KQ W1 X.K H1 r Q := fun v W' H' g2 k2 => kk v W' H' (g1.trans g2) (k2.back fun a h => g1.fresh h)
  revert hv hy
  generalize r1.view = d
  intro hy hv
  split at hy
  · cases hy
    obtain ⟨a, vs, rfl, h1, h2⟩ := hv
    exact .inl ⟨a, vs, rfl, h1.1, k'.tup g1.wm h2.reverse⟩
  · split at hy
    · rename_i z hz
      cases hy
      exact .inr ⟨z, hv, by rw [SZ_eq]; exact hz, k'.fz g1.wm rfl⟩
    · cases hy
  · cases hy
end
/-! ## zip -/
section
variable {X : Cx} {W : List Addr} {K : PySem.W.Frag} {H : Hp} {elts : List Expr} {kk : Nat} {tpos : Pos}
def zipD (xs ys : List D) : List D := List.zipWith (fun x y => D.tup [x, y]) xs ys
theorem zipD_at {xs ys : List D} {i : Nat} {d : D} (h : (zipD xs ys)[i]? = some d) : ∃ x y, xs[i]? = some x ∧ ys[i]? = some y ∧ d = .tup [x, y] := by
  unfold zipD at h
  rw [List.getElem?_zipWith] at h
  cases hx : xs[i]? with
  | none => rw [hx] at h; cases h
  | some x =>
    cases hy : ys[i]? with
    | none => rw [hx, hy] at h; cases h
    | some y =>
      rw [hx, hy] at h
      cases h
      exact ⟨x, y, rfl, rfl, rfl⟩
theorem zipD_len (xs ys : List D) : (zipD xs ys).length = min xs.length ys.length := by
  unfold zipD
  rw [List.length_zipWith]
theorem itAt_zipT {a b : Addr} {vs us : List V} {xs ys : List D} (wm : WM W H) (h1 : SqT K H a vs) (h2 : SqT K H b us) (r1 : RpL W K H xs vs) (r2 : RpL W K H ys us) : ItAt (.Tuple elts kk tpos) W K H (RZ.ItzT K a b) (zipD xs ys) := by
  refine ⟨fun i d e => ?_, vs, us, h1, h2, ?_⟩
  · obtain ⟨x, y, e1, e2, rfl⟩ := zipD_at e
    obtain ⟨v, v1, rv⟩ := r1.get e1
    obtain ⟨u, u1, ru⟩ := r2.get e2
    refine ⟨⟨vs, us, v, u, h1, h2, v1, u1⟩, fun z H' q => ?_⟩
    obtain ⟨T, p, q', rfl, hn, rfl, q1, q2⟩ := q
    have z1 := q1 vs h1
    have z2 := q2 us h2
    rw [v1] at z1
    rw [u1] at z2
    cases z1
    cases z2
    have g : Grow K W H W (upd H T (.tup [v, u])) := .tup wm hn
    exact ⟨upd_keep hn, .inr ⟨[x, y], T, [v, u], rfl, rfl, .of upd_same, v, [u], rfl, Rp.mono (g.ex wm) x rv, u, [], rfl, Rp.mono (g.ex wm) y ru, rfl⟩⟩
  · rw [zipD_len, r1.length, r2.length]
    omega
theorem itAt_zipL {a b : Addr} {vs us : List V} {xs ys : List D} (wm : WM W H) (h1 : SqL K H a vs) (h2 : SqL K H b us) (r1 : RpL W K H xs vs) (r2 : RpL W K H ys us) : ItAt (.Tuple elts kk tpos) W K H (L2.Itz K a b) (zipD xs ys) := by
  refine ⟨fun i d e => ?_, vs, us, h1, h2, ?_⟩
  · obtain ⟨x, y, e1, e2, rfl⟩ := zipD_at e
    obtain ⟨v, v1, rv⟩ := r1.get e1
    obtain ⟨u, u1, ru⟩ := r2.get e2
    refine ⟨⟨vs, us, v, u, h1, h2, v1, u1⟩, fun z H' q => ?_⟩
    obtain ⟨T, p, q', rfl, hn, rfl, q1, q2⟩ := q
    have z1 := q1 vs h1
    have z2 := q2 us h2
    rw [v1] at z1
    rw [u1] at z2
    cases z1
    cases z2
    have g : Grow K W H W (upd H T (.tup [v, u])) := .tup wm hn
    exact ⟨upd_keep hn, .inr ⟨[x, y], T, [v, u], rfl, rfl, .of upd_same, v, [u], rfl, Rp.mono (g.ex wm) x rv, u, [], rfl, Rp.mono (g.ex wm) y ru, rfl⟩⟩
  · rw [zipD_len, r1.length, r2.length]
    omega
@[simp] def zipX : List D → Option (List D × Bool)
  | [.tup xs, .tup ys] => some (zipD xs ys, true)
  | [.lst xs, .lst ys] => some (zipD xs ys, true)
  | _ => none
@[simp] def zipR (rs : List RV) : Option (List D × Bool) := (items rs).bind zipX
theorem items_two : ∀ {rs : List RV} {x y : D}, items rs = some [x, y] → ∃ r s, rs = [r, s] ∧ r.item = some x ∧ s.item = some y
  | [], x, y, h => by cases h
  | [r], x, y, h => by
    simp only [items] at h
    cases q : r.item with
    | none => rw [q] at h; cases h
    | some z => rw [q] at h; cases h
  | r :: s :: rs, x, y, h => by
    simp only [items] at h
    cases q : r.item with
    | none => rw [q] at h; cases h
    | some z =>
      rw [q] at h
      cases q2 : s.item with
      | none => rw [q2] at h; cases h
      | some z2 =>
        rw [q2] at h
        cases q3 : items rs with
        | none => rw [q3] at h; cases h
        | some zs =>
          rw [q3] at h
          cases zs with
          | cons a b => simp at h
          | nil =>
            cases rs with
            | nil =>
              simp at h
              exact ⟨r, s, rfl, by rw [q, h.1], by rw [q2, h.2]⟩
            | cons a b =>
              simp only [items] at q3
              cases q4 : a.item with
              | none => rw [q4] at q3; cases q3
              | some z4 =>
                rw [q4] at q3
                cases q5 : items b with
                | none => rw [q5] at q3; cases q3
                | some z5 => rw [q5] at q3; cases q3
@[simp] def iZip (fs : FA) : FI := fun e => (fs e).bind zipR
theorem ip_zip {a b : Expr} {p pos : Pos} {fs : FA} (hm : X.mg "zip" = none) (ha : PPs X [a, b] fs) (hg : Gl X "zip" := by rfl)
    (hs : starEach [a, b] X.env = (false, eval a X.env) :: starEach [b] X.env := by rfl) (hpl : (backTo pos (starEach [b] X.env)).any (·.1) = false := by rfl) : IP X (.Tuple elts kk tpos) (.Call (.Name "zip" p) [a, b] [] pos) (iZip fs) := by
  refine ⟨⟨fun pins s σ H R I ⟨W, e, ds, bb, sr, hf, k⟩ => ?_⟩⟩
  obtain ⟨rs, e1, hy⟩ := Option.bind_eq_some_iff.mp hf
  refine (RZ.pi_zipA hg hm ha.pa hs hpl).run pins s σ H R I ⟨W, e, rs, sr, e1, fun vs W1 H1 g1 k1 => ?_⟩
  obtain ⟨ds', e2, hy⟩ := Option.bind_eq_some_iff.mp hy
  have g0 := g1.base sr.wm
  unfold zipX at hy
  split at hy
  · cases hy
    obtain ⟨r, s, rfl, i1, i2⟩ := items_two e2
    obtain ⟨v, us, rfl, k1, v', us', rfl, k2, en⟩ := k1
    cases (show us' = [] from en)
    obtain ⟨a, xs, rfl, h1, r1⟩ := k1.item g1 sr.wm i1
    obtain ⟨b, ys, rfl, h2, r2⟩ := k2.item g1 sr.wm i2
    refine ⟨a, b, xs, ys, rfl, .inr ⟨h1.1, h2.1, k _ W H1 g0 fun W2 H2 h3 => ?_⟩⟩
    rcases h3 with g2 | ⟨_, x2, wm2⟩
    · exact itAt_zipT g2.wm ((g2.ex g0.wm).sqT h1.1) ((g2.ex g0.wm).sqT h2.1) (RpL.mono (g2.ex g0.wm) _ r1) (RpL.mono (g2.ex g0.wm) _ r2)
    · exact itAt_zipT wm2 (x2.sqT h1.1) (x2.sqT h2.1) (RpL.mono x2 _ r1) (RpL.mono x2 _ r2)
  · cases hy
    obtain ⟨r, s, rfl, i1, i2⟩ := items_two e2
    obtain ⟨v, us, rfl, k1, v', us', rfl, k2, en⟩ := k1
    cases (show us' = [] from en)
    obtain ⟨a, xs, rfl, h1, r1⟩ := k1.item g1 sr.wm i1
    obtain ⟨b, ys, rfl, h2, r2⟩ := k2.item g1 sr.wm i2
    refine ⟨a, b, xs, ys, rfl, .inl ⟨h1.seq, h2.seq, k _ W H1 g0 fun W2 H2 h3 => ?_⟩⟩
    rcases h3 with g2 | ⟨_, x2, wm2⟩
    · exact itAt_zipL g2.wm ((g2.ex g0.wm).lsF h1).seq ((g2.ex g0.wm).lsF h2).seq (RpL.mono (g2.ex g0.wm) _ r1) (RpL.mono (g2.ex g0.wm) _ r2)
    · exact itAt_zipL wm2 (x2.lsF h1).seq (x2.lsF h2).seq (RpL.mono x2 _ r1) (RpL.mono x2 _ r2)
  · cases hy
end
end DL

set_option maxHeartbeats 4000000
namespace DL
open PySem PySem.Spec PyProof.Rows L2
open PySem.W (Frag findIn typeIn keepIn subIn hasDictIn clsIn specialIn takesIn mroIn codeIn fnOf)
open PySem.HandSPX (refsVE refsVE_contains)

/-! ## own exceptions with one field -/
def eiA (f : Str) (p1 p2 : Pos) : Arguments := { posonlyargs := [], args := [{ arg := "self", annotation := none, pos := p1 }, { arg := f, annotation := none, pos := p2 }], vararg := none, kwonlyargs := [], kw_defaults := [], kwarg := none, defaults := [] }
def eiB (f : Str) (q1 q2 q3 q4 : Pos) : List Stmt := [.Assign [.Attribute (.Name "self" q1) f q2] (.Name f q3) q4]
def eiS (f : Str) : Scope := { kind := .function, names := [(PySem.Str.ofString "self", .local), (f, .local)], isGenerator := false, isCoroutine := false, more := [] }
def EBind (f qual : Str) : Prop := ∀ (kV doc pm : Value) (an : Option Addr) (cdv ct x v : Value) (p1 p2 q1 q2 q3 q4 : Pos),
  bindArgs (fnOf "__init__" qual (eiA f p1 p2) (eiB f q1 q2 q3 q4) (eiS f) .none kV doc pm an cdv ct) ⟨[x, v], []⟩ = pure [(PySem.Str.ofString "self", x), (f, v)]
/-- what K says of the class nm, at C, with its field f and its __init__ at fI -/
structure EC (K : Frag) (mg : Str → Option Value) (nm f qual : Str) (C fI : Addr) : Prop where
  ns : (f == ("self" : Str)) = false
  gC : mg nm = some (.ref C)
  cls : ∃ nm q N bs bm sn sub ab col dd k0 k1 k2 k3 k5, K.lookup C = some (excClassObj nm q C N bs bm true sn sub ab col dd k0 k1 k2 k3 k5 "ValueError.__new__") ∧ refsVE bm = true
  sa : findIn K (.ref C) "__setattr__" = some (some (.builtin "object.__setattr__"))
  ga : findIn K (.ref C) "__getattribute__" = some (some (.builtin "BaseException.__getattribute__"))
  gg : findIn K (.ref C) "__getattr__" = some none
  noN : findIn K (.ref C) f = some none
  iC : findIn K (.ref C) "__init__" = some (some (.ref fI))
  tC : typeIn K (.ref fI) = some (.type "function")
  kC : keepIn K (.ref C) = true
  exC : subIn K (.ref C) (.type "BaseException") = some true
  tyC : typeIn K (.ref C) = some (.type "type")
  hdC : hasDictIn K C = true
  ca : findIn K (.ref C) "__class__" = some (some (.builtin "object.__class__"))
  cn : specialIn K (.builtin "object.__class__") "__get__" = some (some (.builtin "getset_descriptor.__get__"))
  ck : takesIn K (.builtin "object.__class__") = some true
  cm : mroIn K C (.type "object") = some true
  bi : EBind f qual
  fn : ∃ (oc : Value) (od : Option Addr) (kV doc pm : Value) (an : Option Addr) (cdv ct : Value) (osl : Array (Option Value)) (p1 p2 q1 q2 q3 q4 : Pos),
    K.lookup fI = some ⟨oc, od, .func (fnOf "__init__" qual (eiA f p1 p2) (eiB f q1 q2 q3 q4) (eiS f) .none kV doc pm an cdv ct), osl⟩ ∧ codeIn K cdv qual = true
def clsB (K : Frag) (C : Addr) : Bool := match K.lookup C with
  | some ⟨.type "type", _, .cls cd, sl⟩ => (match cd.mro, sl.toList with
    | .ref C' :: bm, [_, _, _, _, some (.builtin n), _] => C' == C && n == "ValueError.__new__" && !cd.hasDel && cd.hasDict && refsVE bm
    | _, _ => false)
  | _ => false
def eqq (a b : Option (Option Value)) : Bool := decide (a = b)
def eqv? (a b : Option Value) : Bool := decide (a = b)
/-- all but the written __init__ -/
def ecB (K : Frag) (nm f : Str) : Bool := clsB K (He.ga K nm) && (eqq (findIn K (.ref (He.ga K nm)) "__setattr__") (some (some (.builtin "object.__setattr__"))) && (eqq (findIn K (.ref (He.ga K nm)) "__getattribute__") (some (some (.builtin "BaseException.__getattribute__")))
  && (eqq (findIn K (.ref (He.ga K nm)) "__getattr__") (some none) && (eqq (findIn K (.ref (He.ga K nm)) f) (some none) && (eqq (findIn K (.ref (He.ga K nm)) "__init__") (some (some (.ref (He.ma K (He.ga K nm) "__init__")))) && (eqv? (typeIn K (.ref (He.ma K (He.ga K nm) "__init__"))) (some (.type "function"))
  && (keepIn K (.ref (He.ga K nm)) && (decide (subIn K (.ref (He.ga K nm)) (.type "BaseException") = some true) && (eqv? (typeIn K (.ref (He.ga K nm))) (some (.type "type")) && (hasDictIn K (He.ga K nm) && (eqq (findIn K (.ref (He.ga K nm)) "__class__") (some (some (.builtin "object.__class__")))
  && (eqq (specialIn K (.builtin "object.__class__") "__get__") (some (some (.builtin "getset_descriptor.__get__"))) && (decide (takesIn K (.builtin "object.__class__") = some true) && decide (mroIn K (He.ga K nm) (.type "object") = some true))))))))))))))
/-! ### it is made -/
/-- behind __init__ -/
structure EInit (h h' : Heap) (x C dx t1 : Addr) (f : Str) (v : Value) : Prop where
  keep : ∀ b o, b ≠ x → h.get? b = some o → h'.get? b = some o
  obj : h'.get? x = some { cls := .ref C, dict := some dx, data := .fields #[.ref t1, .none, .none, .none, .bool false, .none] }
  big : h.objs.size ≤ dx
  ne : dx ≠ x
  ns : h'.Ns1 dx (fun y => if y = f then some v else none)
structure EMade (h h' : Heap) (e C d : Addr) (f : Str) (v : Value) : Prop where
  keep : ∀ b o, h.get? b = some o → h'.get? b = some o
  new : h.objs.size ≤ e
  obj : ∃ oe vs, h'.get? e = some oe ∧ oe.cls = .ref C ∧ oe.dict = some d ∧ oe.data = .fields vs ∧ vs[1]? = some .none
  big : h.objs.size ≤ d
  ne : d ≠ e
  ns : h'.Ns1 d (fun y => if y = f then some v else none)
section
variable {prog : Program} {w : World} {A : Around} {E : Value → Shared → Prop} {R : Result → Shared → Prop} {s : Shared} {K : Frag} {mg : Str → Option Value} {C fI : Addr} {nm f qual : Str}
theorem ld_loc {M : Model} {s : Shared} {name : Str} {scope : Scope} {L a : Addr} {cd : Value} {m : Str → Option Value} {x : Str} {pos : Pos} {v : Value} {Q : Value → Shared → Prop} {A : Around} {E : Value → Shared → Prop} (hn : s.heap.Ns L m) (hv : m x = some v) (h : Q v s)
    (hk : scope.kind = .function) (hl : (envOfC name scope L a cd).kindOf x = some .local) (hd : (x == ("__debug__" : Str)) = false) : wpAny M A (eval (.Name x pos) (envOfC name scope L a cd)) Q E s := wpAny_Name (wpAny_loadName_local hk hl hn hv h) hd
end
section
variable {X : Cx} {C fI : Addr} {nm f qual : Str} {Wx : WX} {lk : List Nat} {a : Expr} {fa : FM}
def tMkE (f : Str) (C : Addr) (ta : TA) : St → Hp → XK → Prop := fun σ H Q => ta σ H fun vs H1 => ∃ v, vs = [v] ∧ ∀ d, H1 d = none → Q (.ref C) (some d) (upd H1 d (.xd [(f, v)]))
/-- raise Nm(a) -/
@[simp] def sRaise (nm f : Str) (fa : FM) : FS := fun e => (fa e).st fun s e1 => .ex ⟨nm, [(f, s.view)]⟩ e1
end
end DL

set_option maxHeartbeats 4000000
namespace DL
open PySem PySem.Spec PyProof.Rows L2

/-! ## in an except suite -/
def tX (K : PySem.W.Frag) (mg : Str → Option Value) (i : Nat) (a : Addr) (cls : Value) (d : Option Addr) (f : XD → FP) : TE := fun σ H Q => ∃ (W : List Addr) (e : En) (x : XD) (r : RV), SR W K H σ e ∧ σ[i]? = some (some (.ref a)) ∧ XR mg W K H x cls d ∧ f x e = some r ∧
  ∀ v W' H', Grow K W H W' H' → RVok W' K H H' r v → Q v H'
/-- the suite's context -/
abbrev Cx.su (X : Cx) (a : Addr) (oe : Obj) (pn : List (Addr × Obj)) : Cx := X.suite a ((a, oe) :: pn)
/-- whatever exception is held -/
structure PX (X : Cx) (i : Nat) (ex : Expr) (f : XD → FP) : Prop where
  run : ∀ (a : Addr) (oe : Obj) (cls : Value) (d : Option Addr) (pn : List (Addr × Obj)), Zc cls d oe → (∃ vs, oe.data = .fields vs) → PE (X.suite a ((a, oe) :: pn)) ex (tX X.K X.mg i a cls d f)
structure PXs (X : Cx) (i : Nat) (es : List Expr) (f : XD → FA) : Prop where
  run : ∀ (a : Addr) (oe : Obj) (cls : Value) (d : Option Addr) (pn : List (Addr × Obj)), Zc cls d oe → (∃ vs, oe.data = .fields vs) → PA (X.suite a ((a, oe) :: pn)) es (fun σ H Q => ∃ (W : List Addr) (e : En) (x : XD) (rs : List RV), SR W X.K H σ e ∧ σ[i]? = some (some (.ref a)) ∧
    XR X.mg W X.K H x cls d ∧ f x e = some rs ∧ ∀ vs W' H', Grow X.K W H W' H' → RVs W' X.K H H' rs vs → Q vs H')
section
variable {W W' : List Addr} {K : PySem.W.Frag} {mg : Str → Option Value} {H H' : Hp} {x : XD} {cls : Value} {d : Option Addr}
theorem XR.grow (g : Grow K W H W' H') (wm : WM W H) (r : XR mg W K H x cls d) : XR mg W' K H' x cls d := by
  obtain ⟨h1, h2⟩ := r
  refine ⟨h1, ?_⟩
  rcases h2 with ⟨a, b⟩ | ⟨dd, fv, e1, e2, e3, e4⟩
  · exact .inl ⟨a, b⟩
  · exact .inr ⟨dd, fv, e1, g.keep _ _ e2 rfl, e3, RpL.mono (g.ex wm) _ e4⟩
end
section
variable {X : Cx} {i : Nat} {a : Expr} {es : List Expr} {fa : FP} {fx : XD → FP} {fs : XD → FA} {pos : Pos}
theorem pxs_nil : PXs X i [] (fun _ => aNil) :=
  ⟨fun a' oe cls d pn hz hf => ⟨fun pos pins s σ H Q I ⟨W, e, x, rs, sr, hi, xr, hfx, k⟩ => by cases hfx; exact pa_nil.run pos pins s σ H Q I (k [] W H (.refl sr.wm) rfl)⟩⟩
theorem pxs_cons (ha : PX X i a fx) (hr : PXs X i es fs) (hs : ∀ (a' : Addr) (oe : Obj) (pn : List (Addr × Obj)), starEach (a :: es) (X.suite a' ((a', oe) :: pn)).env = (false, eval a (X.suite a' ((a', oe) :: pn)).env) :: starEach es (X.suite a' ((a', oe) :: pn)).env := by intro _ _ _; rfl) :
    PXs X i (a :: es) (fun x => aCons (fx x) (fs x)) := by
  refine ⟨fun a' oe cls d pn hz hf => ⟨fun pos pins s σ H Q I ⟨W, e, x, rs, sr, hi, xr, hfx, k⟩ => ?_⟩⟩
  obtain ⟨r1, e1, hy⟩ := Option.bind_eq_some_iff.mp hfx
  obtain ⟨r2, e2, hw⟩ := Option.map_eq_some_iff.mp hy
  subst hw
  refine (pa_cons (ha.run a' oe cls d pn hz hf) (hr.run a' oe cls d pn hz hf) (hs a' oe pn)).run pos pins s σ H Q I ⟨W, e, x, r1, sr, hi, xr, e1, fun v W1 H1 g1 k1 => ?_⟩
  exact ⟨W1, e, x, r2, g1.sr sr, hi, xr.grow g1 sr.wm, e2, fun vs W' H' g2 k2 => k _ W' H' (g1.trans g2) ⟨v, vs, rfl, k1.grow g2 g1.wm, k2.back fun a h => g1.fresh h⟩⟩
theorem px_lst (h : PXs X i es fs) : PX X i (.List es pos) (fun x => pLst (fs x)) := by
  refine ⟨fun a' oe cls d pn hz hf => ⟨fun pins s σ H Q I ⟨W, e, x, r, sr, hi, xr, hfx, k⟩ => (pe_lst (h.run a' oe cls d pn hz hf)).run pins s σ H Q I ?_⟩⟩
  obtain ⟨rs, e1, hy⟩ := Option.bind_eq_some_iff.mp hfx
  obtain ⟨xs, e2, hw⟩ := Option.bind_eq_some_iff.mp hy
  split at hw
  · rename_i hz
    cases hw
    refine ⟨W, e, x, rs, sr, hi, xr, e1, fun vs W1 H1 g1 k1 => ?_⟩
    have q := k1.items g1 sr.wm e2
    refine ⟨by rw [SZ_eq, ← q.length]; exact hz, fun pp hn => ?_⟩
    have g0 := g1.base sr.wm
    exact KQ.fr (Q := Q) g0.wm (fun v W' H' g3 k3 => k v W' H' (g0.trans g3) (k3.back fun a h => g0.fresh h)) q pp hn
  · cases hw
/-- e.f -/
@[simp] def xFld (nm f : Str) : XD → FP := fun x _ => if x.cls = nm then (match x.fs with
  | [(g, y)] => if g = f then some (.fz y) else none
  | _ => none) else none
/-- isinstance(e, D) for the class's instances -/
@[simp] def xIsi (nm : Str) (b : Bool) : XD → FP := fun x _ => if x.cls = nm then some (.fz (.bl b)) else none
end
end DL

set_option maxHeartbeats 4000000
namespace DL
open PySem PySem.Spec PyProof.Rows L2

/-! ## try: .. except C as n: .. -/
/-- the suite, by the exception -/
abbrev FX := XD → FS
structure SX (X : Cx) (lk : List Nat) (i : Nat) (st : List Stmt) (f : FX) : Prop where
  run : ∀ (a : Addr) (oe : Obj) (cls : Value) (d : Option Addr) (pn : List (Addr × Obj)), Zc cls d oe → (∃ vs, oe.data = .fields vs) → PSs (X.suite a ((a, oe) :: pn)) st (fun D σ H => ∃ (W : List Addr) (e : En) (x : XD), SR W X.K H σ e ∧ σ[i]? = some (some (.ref a)) ∧
    XR X.mg W X.K H x cls d ∧ FlK X.K X.mg noW lk W H σ e D (f x e))
@[simp] def Fl.gone (i : Nat) : Fl → Fl
  | .nx e => .nx (e.set i none)
  | .bk e => .bk (e.set i none)
  | .ct e => .ct (e.set i none)
  | .rt s e => .rt s e
  | _ => .stuck
@[simp] def sTry (cm : Str → Option Bool) (i : Nat) (fb : FS) (fx : FX) : FS := fun e => match fb e with
  | .ex x e1 => (match cm x.cls with
    | some b => if b = true then (if i < e1.length then (fx x (e1.set i none)).gone i else .stuck) else .ex x e1
    | none => .stuck)
  | o => o
section
variable {W : List Addr} {K : PySem.W.Frag} {mg : Str → Option Value} {H : Hp} {σ : St} {e : En}
end
section
variable {X : Cx} {Wx : WX} {lk : List Nat} {i : Nat} {a : Expr} {fx : XD → FP} {stm : Stmt} {sts : List Stmt} {pos : Pos}
/-! ### the suite: a name gets a value; a value is returned -/
@[simp] def sxSet (j : Nat) (fx : XD → FP) : FX := fun x e => (rvO (fx x e) e).st fun s e1 => put j s.view e1
@[simp] def sxRet (fx : XD → FP) : FX := fun x e => (rvO (fx x e) e).st fun s e1 => .rt s e1
end
end DL

set_option maxHeartbeats 4000000
namespace DL
open PySem PySem.Spec PyProof.Rows L2

/-! ## odds and ends -/
section
variable {X : Cx} {Wx : WX} {lk : List Nat} {a b : Expr} {fa fb : FM} {sts : List Stmt} {pos : Pos}
@[simp] def pDic0 : FP := fun _ => some (.fz (.dic [] []))
/-- for over a list that is made with effects -/
@[simp] def sForM (fa : FM) (bind : FG) (fb : FS) : FS := fun e => (fa e).st fun s e1 => match s.view with
  | .lst ds => forL bind fb ds e1
  | _ => .stuck
theorem sd_forM {tg iter : Expr} {vs : List Nat} {bind : FG} {fb : FS} (hp : PassesOwn (model X.prog X.w) X.A X.env X.xe) (hc : X.calm = true) (ha : PM X Wx iter fa) (hg : GP X tg vs bind) (hb : SDs X Wx lk sts fb) (hlk : ∀ j ∈ lk, j ∉ vs := by decide)
    (hs : ∀ x, foldedSetIterable iter X.env x = pure x := by intro _; rfl) : SD X Wx lk (.For tg iter sts [] pos) (sForM fa bind fb) := by
  obtain ⟨u, pb, kb⟩ := hb.run
  refine SD.of ⟨_, ps_for (g := tG tg X.K vs bind) hp hc (pi_list ha.pe) hg.pg pb hs, fun W H σ e D sr h => ?_⟩
  refine ⟨W, e, sr, DK.st sr.wm h fun s v e1 W1 H1 sr1 x1 r h1 => ?_⟩
  revert r h1
  generalize s.view = dl
  intro r h1
  cases dl with
  | lst ds =>
    obtain ⟨l, us, rfl, hl, rl⟩ := r
    refine ⟨l, rfl, ⟨us, .of hl.1⟩, fun i m σ2 H2 => m = ds.length - i ∧ i ≤ ds.length ∧ ∃ W2 e2, SR W2 X.K H2 σ2 e2 ∧ Ex W1 H1 W2 H2 ∧ FlK X.K X.mg Wx lk W2 H2 σ2 e2 D (forL bind fb (ds.drop i) e2), ⟨ds.length, rfl, Nat.zero_le _, W1, e1, sr1, .refl sr1.wm, h1⟩, ?_⟩
    rintro i m σ2 H2 ⟨rfl, hle, W2, e2, sr2, x2, h2⟩
    have I2 : ItAt tg W2 X.K H2 (Itl X.K l) ds := itAt_list (x2.lsF hl).seq (RpL.mono x2 _ rl)
    by_cases hlt : i < ds.length
    · refine .inr ?_
      obtain ⟨d, hd⟩ : ∃ d, ds[i]? = some d := ⟨ds[i], List.getElem?_eq_getElem hlt⟩
      obtain ⟨hgo, hy⟩ := I2.1 i d hd
      refine ⟨hgo, fun σ' H' => ∃ W4 e4, SR W4 X.K H' σ' e4 ∧ Ex W1 H1 W4 H' ∧ FlK X.K X.mg Wx lk W4 H' σ' e4 D (forL bind fb (ds.drop (i + 1)) e4), fun σ' H' q => ⟨ds.length - (i + 1), by omega, rfl, hlt, q⟩, fun x H3 y => ?_⟩
      obtain ⟨kp, rp⟩ := hy x H3 y
      have ed : ds.drop i = d :: ds.drop (i + 1) := by
        rw [List.drop_eq_getElem_cons hlt]
        rw [List.getElem?_eq_getElem hlt] at hd
        cases hd
        rfl
      rw [ed] at h2
      unfold forL at h2
      split at h2
      · exact h2.elim
      rename_i e3 he3
      have g3 : Grow X.K W2 H2 W2 H3 := .of sr2.wm kp
      have sr3 := g3.sr sr2
      refine ⟨W2, e2, d, e3, sr3, rp, he3, fun σ1 sr1 l1 a1 o1 => kb W2 H3 σ1 e3 _ sr1 ?_⟩
      have x3 : EX W2 H2 σ2 e2 W2 H3 σ1 e3 := (g3.fx sr2).trans (EX.shrink o1)
      have xx : Ex W1 H1 W2 H3 := x2.trans (g3.ex sr2.wm)
      have h3 := FlK.go x3 (fun j hj => a1 j (hlk j hj)) h2
      revert h3
      generalize fb e3 = fl
      intro h3
      cases fl with
      | stuck => exact h3
      | nx e4 => exact fun W4 H4 σ4 sr4 x4 l4 => ⟨W4, e4, sr4, xx.trans (x4.ex sr1), FlK.go x4 l4 h3⟩
      | ct e4 => exact fun W4 H4 σ4 sr4 x4 l4 => ⟨W4, e4, sr4, xx.trans (x4.ex sr1), FlK.go x4 l4 h3⟩
      | bk e4 => exact h3
      | rt s e4 => exact h3
      | ex x e4 => exact h3
    · have ei : i = ds.length := by omega
      subst ei
      rw [List.drop_length] at h2
      exact .inl ⟨I2.2, h2 W2 H2 σ2 sr2 .refl fun _ _ => rfl⟩
  | _ => exact h1.elim
end
theorem Room.u64 {k : Nat} {A : Around} (r : Room k A) : A.units + 64 < cLine := by have := r.un; omega
theorem Room.u110 {k : Nat} {A : Around} (r : Room k A) : A.units + 110 < cLine := by have := r.un; omega
/-- a def of the text, by its body -/
theorem cal_of {P : Program} {w : World} {K : PySem.W.Frag} {mg : Str → Option Value} {base : Heap} {d : He.DefD} {N ps : List Str} {k : Nat} {lk : List Nat} {fb : FS} (hm : mg d.name = some (.ref (He.fAd K d.at_))) (FD : ∃ fd, FunD K d.name d.qual d.params d.body d.scope (d.dvs K) (d.kws K) (He.fAd K d.at_) fd)
    (hdf : d.dfl = []) (SC : FnScope N ps d.scope)
    (hb : ∀ (cdv : Value) (A : Around) (outer : List Env) (s : Shared) (H : Hp) (E : XK), Room k (A.deeper (envOfC d.qual d.scope s.heap.objs.size (He.fAd K d.at_) cdv)) → A.guards = some [] →
      SDs (cxOf (CX P w) P w K mg base N d.qual d.scope (He.fAd K d.at_) cdv A outer s H E) (fun c d _ H' => E c d H') lk d.body fb) : Cal P w K mg base (k + 1) d ps (fnF N.length lk fb) := by
  obtain ⟨fd, FD⟩ := FD
  refine ⟨⟨_, fd, hm, FD.kp, fd_of FD SC hb, ?_⟩⟩
  obtain ⟨oc, od, dV, kV, doc, pm, an, cdv, ct, osl, e, lk', hcd, hD, hK⟩ := FD.ex
  have hd : dV = .none := by
    rcases hD with ⟨_, z⟩ | ⟨z, _⟩
    · exact z
    · exact absurd (show d.dvs K = [] by unfold He.DefD.dvs; rw [hdf]; rfl) z
  subst hd
  exact ⟨⟨kV, doc, pm, an, cdv, ct, e⟩, oc, od, osl, lk'⟩

/-! ## the law's end -/
section
variable {P : Program} {w : World} {K : PySem.W.Frag} {mg mb : Str → Option Value} {k : Nat} {fa a : Addr} {fd : FuncData} {x : Str} {F : List S → Out} {s1 : Shared} {vs : List Value} {ns : List Int}
def dints (ns : List Int) : List D := ns.map .int
theorem rp_ints {W : List Addr} {H : Hp} : ∀ ns : List Int, RpL W K H (dints ns) (ns.map V.int)
  | [] => rfl
  | n :: ns => ⟨.int n, ns.map V.int, rfl, rfl, rp_ints ns⟩
/-- K's code objects with their tables -/
def tabPairs (K : PySem.W.Frag) : List (Addr × Addr) := K.filterMap fun p => match p.2.data with
  | .fields vs => (match (vs[11]? : Option Value) with
    | some (.ref P) => if PySem.W.codeHdIn K p.1 P = true then some (p.1, P) else none
    | _ => none)
  | _ => none
theorem lookup_mem : ∀ {K : PySem.W.Frag} {c : Addr} {o : Obj}, K.lookup c = some o → (c, o) ∈ K
  | [], c, o, h => nomatch h
  | (a, b) :: K, c, o, h => by
    unfold List.lookup at h
    split at h
    · rename_i q
      cases h
      rw [show c = a from beq_iff_eq.mp q]
      exact List.mem_cons_self
    · exact List.mem_cons_of_mem _ (lookup_mem h)
theorem tabPairs_in {K : PySem.W.Frag} {c P : Addr} (h : PySem.W.codeHdIn K c P = true) : (c, P) ∈ tabPairs K := by
  have h' := h
  unfold PySem.W.codeHdIn at h'
  split at h'
  · rename_i vs s hk
    simp only [Bool.and_eq_true] at h'
    obtain ⟨⟨⟨⟨⟨e1, _⟩, _⟩, _⟩, _⟩, _⟩ := h'
    split at e1
    · rename_i P' h11
      have e : P' = P := beq_iff_eq.mp e1
      subst e
      refine List.mem_filterMap.mpr ⟨_, lookup_mem hk, ?_⟩
      dsimp only
      rw [h11]
      dsimp only
      rw [if_pos h]
    · cases e1
  · cases h'
theorem tabPairs_of {K : PySem.W.Frag} {p : Addr × Addr} (h : p ∈ tabPairs K) : PySem.W.codeHdIn K p.1 p.2 = true := by
  obtain ⟨q, _, e⟩ := List.mem_filterMap.mp h
  split at e
  · split at e
    · split at e
      · rename_i hh
        cases e
        exact hh
      · cases e
    · cases e
  · cases e
/-- what the base must show of the tables -/
def BaseT (K : PySem.W.Frag) (mg : Str → Option Value) (base : Heap) : Prop := ∀ c P, PySem.W.codeHdIn K c P = true → LamX.TabB base mg c P
/-- what K says of its tables: not in it, one name each -/
structure TbK (K : PySem.W.Frag) : Prop where
  nt : ∀ p ∈ tabPairs K, K.lookup p.2 = none
  uq : ∀ c c' P q q', IsTb K c P q → IsTb K c' P q' → q = q'
theorem law_end (KX : K.In s1.heap) (TK : TbK K) (hT : ∀ p ∈ tabPairs K, s1.heap.get? p.2 = some { cls := .none, data := .fields #[] }) (hns : s1.heap.Ns mainGlobals mg) (hb : s1.heap.Ns builtinsNs mb) (hbb : ∀ x : Str, x ≠ "__name__" → mb x = bootBuiltins x) (hlim : s1.heap.NoLimit) (hg : s1.gens = #[])
    (hbm : ∃ (bm : Addr) (ob : Obj), mg "__builtins__" = some (.ref bm) ∧ bm ≠ builtinsNs ∧ s1.heap.get? bm = some ob ∧ ob.cls = .type "module" ∧ ob.dict = some builtinsNs ∧ ob.data = .plain)
    (ha : s1.heap.get? a = some { cls := .type "list", data := .seq vs.toArray }) (hi : IntsAre vs ns) (hl : ns.length ≤ sizeLine)
    (hr : Room k callerA) (hF : ∀ base : Heap, K.In base → base.Ns mainGlobals mg → BaseT K mg base → Fd P w K mg base k fa fd [x] F) (bind : ∀ (s : Shared) (u : Value), BindsTo s fd ⟨[u], []⟩ [(x, u)]) (tr : ∃ e, F [.d (.ro (dints ns))] = .ok (.d (.bl true)) e) :
    codeAny (model P w) callerA (.call (.ref fa) ⟨[.ref a], []⟩) (fun r s' => r = .ok (.ret (.bool true)) ∧ OldK s1.heap s'.heap ∧ s'.os = s1.os ∧ AllBare s'.gens) s1 := by
  have nT := TK.nt
  have C : ∀ p ∈ tabPairs K, PySem.W.CodeHd s1.heap p.1 p.2 := fun p hp => PySem.W.codeHd_of_K KX (tabPairs_of hp)
  have isT : ∀ b : Addr, b ∈ (tabPairs K).map (·.2) → s1.heap.get? b = some { cls := .none, data := .fields #[] } := fun b hb => by
    obtain ⟨p, hp, e⟩ := List.mem_map.mp hb
    rw [← e]
    exact hT p hp
  have aT : a ∉ (tabPairs K).map (·.2) := fun z => by
    have q := isT a z
    rw [ha] at q
    have z' : Data.seq vs.toArray _ = Data.fields #[] := congrArg Obj.data (Option.some.inj q)
    cases z'
  have memT : ∀ p ∈ tabPairs K, p.2 ∈ (tabPairs K).map (·.2) := fun p hp => List.mem_map.mpr ⟨p, hp, rfl⟩
  have go : ∀ H : Hp, (∀ p ∈ tabPairs K, H p.2 = some (.tbl #[])) → (∀ b, H b = none ∨ b ∈ (tabPairs K).map (·.2) ∨ ∃ o xs, H b = some (.frz o (.lst xs))) → SqL K H a (ns.map V.int) → (∀ b, ¬ Mut (H b)) → HOk P w H s1.heap → (∀ b, H b ≠ none → b = a ∨ b ∈ (tabPairs K).map (·.2)) → (H a ≠ none → K.lookup a = none) →
      codeAny (model P w) callerA (.call (.ref fa) ⟨[.ref a], []⟩) (fun r s' => r = .ok (.ret (.bool true)) ∧ OldK s1.heap s'.heap ∧ s'.os = s1.os ∧ AllBare s'.gens) s1 := by
    intro H hH only sq nomut ok one notK
    have inB {b : Addr} {o : Obj} (e : s1.heap.get? b = some o) (n : H b = none) : (hidT s1.heap H).get? b = some o := hidT_get e n
    have noD : ∀ {b : Addr} {o : Obj}, s1.heap.get? b = some o → (∀ vs n, o.data ≠ .seq vs n) → o.data ≠ .fields #[] → H b = none := fun {b o} e h1 h2 => by
      cases q : H b with
      | none => rfl
      | some u =>
        rcases one b (by rw [q]; simp) with e' | e'
        · rw [e', ha] at e
          cases e
          exact (h1 _ _ rfl).elim
        · rw [isT b e'] at e
          cases e
          exact (h2 rfl).elim
    have dictN {b : Addr} {o : Obj} {es : Array DictEntry} {ep : Nat} (e : s1.heap.get? b = some o) (d : o.data = .dict es ep) : H b = none := by
      refine noD e (fun vs n z => ?_) fun z => ?_
      · rw [d] at z
        cases z
      · rw [d] at z
        cases z
    have nsB {b : Addr} {m : Str → Option Value} (z : s1.heap.Ns b m) : (hidT s1.heap H).Ns b m := let ⟨o, es, ep, e, d, r⟩ := z; ⟨o, es, ep, inB e (dictN e d), d, r⟩
    have kB : K.In (hidT s1.heap H) := fun b o e => inB (KX b o e) (by
      cases q : H b with
      | none => rfl
      | some u =>
        rcases one b (by rw [q]; simp) with z | z
        · rw [z, notK (by rw [← z, q]; simp)] at e
          cases e
        · obtain ⟨p, hp, ep⟩ := List.mem_map.mp z
          rw [← ep, nT p hp] at e
          cases e)
    have md : Mod K mg (hidT s1.heap H) := ⟨kB, nsB hns, ⟨mb, nsB hb, hbb⟩, let ⟨mc, h1, h2⟩ := hlim; ⟨mc, nsB h1, h2⟩⟩
    have TB : BaseT K mg (hidT s1.heap H) := fun c P hc => by
      have hp := tabPairs_in hc
      have hTp := hT _ hp
      refine ⟨?_, ?_, fun z => ?_⟩
      · obtain ⟨o, us, file, tf, flags, tg, inF, text, tt, e1, r1, r2, r3, r4, r5, r6, r7, r8, hne⟩ := C _ hp
        refine ⟨o, us, file, tf, flags, tg, inF, text, tt, inB e1 (noD e1 (fun vs n z => ?_) fun z => ?_), r1, r2, r3, r4, r5, r6, r7, r8, hne⟩
        · rw [r2] at z
          cases z
        · rw [r2] at z
          cases z
          simp at r3
      · obtain ⟨bm, ob, b1, b2, b3, b4, b5, b6⟩ := hbm
        have nG : bm ≠ mainGlobals := fun q => by
          obtain ⟨o, es, ep, e, hd, _⟩ := hns
          rw [q, e] at b3
          cases b3
          rw [hd] at b6
          cases b6
        have nP : bm ≠ P := fun q => by
          rw [q] at b3
          rw [show s1.heap.get? P = _ from hTp] at b3
          cases b3
          cases b6
        refine ⟨bm, ob, b1, b2, nG, nP, inB b3 (noD b3 (fun vs n z => ?_) fun z => ?_), b4, b5, b6⟩
        · rw [b6] at z
          cases z
        · rw [b6] at z
          cases z
      · obtain ⟨o, es, ep, e, hd, _⟩ := hns
        rw [z] at e
        rw [show s1.heap.get? P = _ from hTp] at e
        cases e
        cases hd
    have env : Env0 P w K mg (hidT s1.heap H) callerA [] s1 H := ⟨rfl, md, fun b o e => of_hidT e, Nat.le_of_eq (hidT_size _ _), trivial, fun b hb => absurd (show b ∈ ([] : List Addr) from hb) (by simp), ok, .of_eq hg⟩
    obtain ⟨ee, ef⟩ := tr
    have ro : RoF K H a (ns.map V.int) := by
      rcases sq with (h | h) | h
      · exact absurd (show Mut (H a) by rw [h]; trivial) (nomut a)
      · exact .inl h
      · exact .inr (.inr h)
    have tb0 : TBs K H := ⟨fun c P q hc => LamX.TabS.nil (hH _ (tabPairs_in hc.1)), TK.uq⟩
    have fr : SR [] K H ([V.ref a].map some) ([S.d (.ro (dints ns))].map some) := frame_of (ds := [.ro (dints ns)]) tb0 (fun _ z => absurd z (by simp)) ⟨_, [], rfl, ⟨a, _, rfl, ro, rp_ints ns⟩, rfl⟩
    refine codeAny_mono ((hF _ kB (nsB hns) TB).run callerA [] s1 H ⟨[.ref a], []⟩ [.ref a] [.ref a] [.d (.ro (dints ns))] [] (fun v _ => v = .bl true) (fun _ _ _ => False) hr rfl env (bind s1 (.ref a)) (.cons rfl .nil) rfl fr ?_) fun r s' h => ?_
    · rw [ef]
      exact fun v W' H' _ _ rv _ => rv
    · cases r with
      | error e =>
        obtain ⟨_, _, _, _, _, _, _, _, _, _, _, _, z⟩ := h
        exact z.elim
      | ok fl =>
        cases fl with
        | next => exact False.elim h
        | brk => exact False.elim h
        | cont => exact False.elim h
        | ret u =>
          obtain ⟨v, H', os, bare, un, ok', rv, q⟩ := h
          cases (show v = .bl true from q)
          obtain rfl : u = Value.bool true := rv
          have key : ∀ b o, b ∉ (tabPairs K).map (·.2) → s1.heap.get? b = some o → s'.heap.get? b = some o := fun b o nb e => by
            cases q : H b with
            | none => exact un.keep b o e q (by intro z; exact absurd (show b ∈ ([] : List Addr) from z) (by simp)) (by simp)
            | some u =>
              rcases only b with z | z | ⟨ob, xs, z⟩
              · rw [q] at z; cases z
              · exact absurd z nb
              · have z2 := un.frzs b ob _ z
                obtain ⟨e1, _⟩ := ok b _ z
                obtain ⟨e2, _⟩ := ok' b _ z2
                rw [e] at e1; cases e1
                exact e2
          have grown : ∀ p ∈ tabPairs K, ∃ more : Array Value, s'.heap.get? p.2 = some { cls := .none, data := .fields more } := fun p hp => by
            obtain ⟨more, z⟩ := un.tbls p.2 #[] (hH p hp)
            exact ⟨_, ok' p.2 _ z⟩
          refine ⟨rfl, ⟨fun b o e => ?_, fun b o e => ?_⟩, os, bare⟩
          · by_cases hb : b ∈ (tabPairs K).map (·.2)
            · obtain ⟨p, hp, ep⟩ := List.mem_map.mp hb
              obtain ⟨more, hm⟩ := grown p hp
              rw [← ep] at e ⊢
              rw [hT p hp] at e
              cases e
              exact .inr (.inl ⟨((C p hp).tab (hT p hp)).isCodeTable, rfl, #[], more, rfl, by rw [Array.empty_append]; exact hm⟩)
            · exact .inl (key b o hb e)
          · by_cases hb : b ∈ (tabPairs K).map (·.2)
            · obtain ⟨p, hp, ep⟩ := List.mem_map.mp hb
              obtain ⟨more, hm⟩ := grown p hp
              rw [← ep]
              exact ⟨_, hm⟩
            · exact ⟨o, key b o hb e⟩
  have rv := vals_ints hi
  have lenV := hi.length
  cases hk : K.lookup a with
  | some o =>
    have e := KX a o hk
    rw [ha] at e
    cases e
    refine go (fun b => if b ∈ (tabPairs K).map (·.2) then some (.tbl #[]) else none) (fun p hp => if_pos (memT p hp)) (fun b => ?_) (.inr ⟨_, vs.toArray, _, hk, rfl, rfl, rfl, by rw [List.size_toArray, lenV]; exact hl, by simpa using rv⟩) (fun b z => ?_) (fun b u z => ?_) (fun b z => ?_) fun z => absurd (show (if a ∈ (tabPairs K).map (·.2) then some (HO.tbl #[]) else none) = none from if_neg aT) z
    · by_cases hb : b ∈ (tabPairs K).map (·.2)
      · exact .inr (.inl hb)
      · exact .inl (if_neg hb)
    · by_cases hb : b ∈ (tabPairs K).map (·.2)
      · rw [if_pos hb] at z; exact z
      · rw [if_neg hb] at z; exact z
    · by_cases hb : b ∈ (tabPairs K).map (·.2)
      · have z' := (if_pos hb).symm.trans z
        cases z'
        exact isT b hb
      · have z' := (if_neg hb).symm.trans z
        cases z'
    · by_cases hb : b ∈ (tabPairs K).map (·.2)
      · exact .inr hb
      · exact absurd (if_neg hb) z
  | none =>
    refine go (fun b => if b = a then some (.frz { cls := .type "list", data := .seq vs.toArray } (.lst (ns.map V.int))) else if b ∈ (tabPairs K).map (·.2) then some (.tbl #[]) else none) (fun p hp => (if_neg (show ¬ p.2 = a from fun z => aT (by rw [← z]; exact memT p hp))).trans (if_pos (memT p hp)))
      (fun b => ?_) (.inl (.inr ⟨{ cls := .type "list", data := .seq vs.toArray }, if_pos rfl⟩)) (fun b z => ?_) (fun b u z => ?_) (fun b z => ?_) fun _ => hk
    · by_cases hb : b = a
      · exact .inr (.inr ⟨_, _, if_pos hb⟩)
      · by_cases hb2 : b ∈ (tabPairs K).map (·.2)
        · exact .inr (.inl hb2)
        · exact .inl ((if_neg hb).trans (if_neg hb2))
    · by_cases hb : b = a
      · rw [if_pos hb] at z; exact z
      · rw [if_neg hb] at z
        by_cases hb2 : b ∈ (tabPairs K).map (·.2)
        · rw [if_pos hb2] at z; exact z
        · rw [if_neg hb2] at z; exact z
    · by_cases hb : b = a
      · have w := (if_pos hb).symm.trans z
        cases w
        subst hb
        exact ⟨ha, by rw [List.length_map]; exact hl, vs, _, rv, ha⟩
      · have z1 := (if_neg hb).symm.trans z
        by_cases hb2 : b ∈ (tabPairs K).map (·.2)
        · have z' := (if_pos hb2).symm.trans z1
          cases z'
          exact isT b hb2
        · have z' := (if_neg hb2).symm.trans z1
          cases z'
    · by_cases hb : b = a
      · exact .inl hb
      · by_cases hb2 : b ∈ (tabPairs K).map (·.2)
        · exact .inr hb2
        · exact absurd ((if_neg hb).trans (if_neg hb2)) z
/-- F gives the written part, the function object, the promise over every base -/
theorem walk_dl {l : PySem.W.OpenLaw} {n k : Nat} {q : Program} {loose : List Str} {XP : (Str → Option Value) → Heap → Prop} {YP : World → Heap → Prop} {d : DefRec} {x : Str} {F : List S → Out} (hn : l.most = some n) (hn2 : n ≤ sizeLine) (hdf : d.params.defaults = []) (hr : Room k callerA)
    (hF : ∀ (w : World) (mg : Str → Option Value) (fa : Addr) (h : Heap), YP w h → h.Ns mainGlobals mg → mg d.name = some (.ref fa) → ∃ (K : PySem.W.Frag) (fd : FuncData), K.In h ∧ TbK K ∧ (∀ p ∈ tabPairs K, h.get? p.2 = some { cls := .none, data := .fields #[] }) ∧ (∀ (s : Shared) (u : Value), BindsTo s fd ⟨[u], []⟩ [(x, u)]) ∧
      ∀ base : Heap, K.In base → base.Ns mainGlobals mg → BaseT K mg base → Fd l.prog w K mg base k fa fd [x] F)
    (tr : ∀ ns : List Int, ns.length ≤ n → ∃ e, F [.d (.ro (dints ns))] = .ok (.d (.bl true)) e) : PySem.W.WalkO q loose XP YP l.row.toRowW d [] (fun f vs => PySem.call f vs) := by
  refine Att.attach_call hn hdf fun w s0 s1 mg mb fa o pm cd doc a vs ns G Y ho hd hcd hmg hobj hints hlen hg => ?_
  obtain ⟨K, fd, KX, TK, hT, hb, hp⟩ := hF w mg fa _ Y G.T.g hmg
  exact law_end KX TK hT G.T.g G.T.b G.T.builtins G.T.nolimit hg G.T.bmain hobj hints (Nat.le_trans hlen hn2) hr hp hb (tr ns hlen)
end
end DL

set_option maxHeartbeats 4000000
namespace DL
open PySem PySem.Spec PyProof.Rows L2

/-! ## a head with own looks -/
/-- each once -/
def ddp : List Addr → Nat → List Addr
  | [], _ => []
  | a :: r, m => if m.testBit a = true then ddp r m else a :: ddp r (m ||| (1 <<< a))
/-- what is come to in so many steps -/
def asX (g : Addr → Option Obj) : Nat → List Addr
  | 0 => [mainGlobals]
  | n + 1 => ddp (asX g n ++ (asX g n).flatMap fun a => match g a with
    | some o => He.refsD o
    | none => []) 0
theorem bit_or {m a b : Nat} : (m ||| (1 <<< a)).testBit b = (m.testBit b || decide (a = b)) := by
  rw [Nat.testBit_or, Nat.one_shiftLeft, Nat.testBit_two_pow]
def tbm : List (Addr × Addr) → Nat
  | [] => 0
  | p :: r => tbm r ||| (1 <<< p.2)
def kbm : PySem.W.Frag → Nat
  | [] => 0
  | p :: r => kbm r ||| (1 <<< p.1)
theorem kbm_bit {K : PySem.W.Frag} {p : Addr × Obj} : p ∈ K → (kbm K).testBit p.1 = true := by
  induction K with
  | nil => exact fun h => nomatch h
  | cons q r ih =>
    intro h
    show (kbm r ||| (1 <<< q.1)).testBit p.1 = true
    rw [bit_or]
    rcases List.mem_cons.mp h with rfl | h
    · simp
    · rw [ih h]; rfl
def uqm : List (Addr × Addr) → Nat → Bool
  | [], _ => true
  | p :: r, m => !m.testBit p.2 && uqm r (m ||| (1 <<< p.2))
theorem uqm_ok : ∀ {l : List (Addr × Addr)} {m : Nat}, uqm l m = true → (∀ p ∈ l, m.testBit p.2 = false) ∧ ∀ p ∈ l, ∀ q ∈ l, p.2 = q.2 → p = q
  | [], _, _ => ⟨(fun _ h => nomatch h), (fun _ h => nomatch h)⟩
  | p :: r, m, h => by
    obtain ⟨h1, h2⟩ := Bool.and_eq_true_iff.mp (show (!m.testBit p.2 && uqm r (m ||| (1 <<< p.2))) = true from h)
    obtain ⟨i1, i2⟩ := uqm_ok h2
    have n1 : m.testBit p.2 = false := by simpa using h1
    have i3 : ∀ q ∈ r, m.testBit q.2 = false ∧ p.2 ≠ q.2 := fun q hq => by
      have := i1 q hq
      rw [bit_or, Bool.or_eq_false_iff] at this
      exact ⟨this.1, of_decide_eq_false this.2⟩
    refine ⟨fun q hq => ?_, fun a ha b hb e => ?_⟩
    · rcases List.mem_cons.mp hq with rfl | hq
      · exact n1
      · exact (i3 q hq).1
    · rcases List.mem_cons.mp ha with rfl | ha
      · rcases List.mem_cons.mp hb with rfl | hb
        · rfl
        · exact absurd e (i3 b hb).2
      · rcases List.mem_cons.mp hb with z | hb
        · rw [z] at e
          exact absurd e.symm (i3 a ha).2
        · exact i2 a ha b hb e
/-- the part without the tables -/
def frT (g : Addr → Option Obj) (as : List Addr) : PySem.W.Frag := (He.frG g as).filter fun p => !(tbm (tabPairs (He.frG g as))).testBit p.1
def tabE : Option Obj → Bool
  | some ⟨.none, none, .fields ⟨[]⟩, ⟨[]⟩⟩ => true
  | _ => false
theorem tabE_ok {o : Option Obj} (h : tabE o = true) : o = some { cls := .none, data := .fields #[] } := by
  unfold tabE at h
  split at h
  · rfl
  · cases h
def tabOk (g : Addr → Option Obj) (K : PySem.W.Frag) : Bool := ((tabPairs K).all fun p => tabE (g p.2) && !(kbm K).testBit p.2) && uqm (tabPairs K) 0
theorem frT_in {h : Heap} {as : List Addr} : PySem.W.Frag.In (frT h.get? as) h := fun a o e => by
  have m := lookup_mem e
  have m2 := (List.mem_filter.mp m).1
  unfold He.frG at m2
  obtain ⟨b, _, e2⟩ := List.mem_filterMap.mp m2
  cases q : h.get? b with
  | none => rw [q] at e2; cases e2
  | some o2 => rw [q] at e2; cases e2; exact q
theorem codeIn_uq {K : PySem.W.Frag} {c : Addr} {q q' : Str} (h : PySem.W.codeIn K (.ref c) q = true) (h' : PySem.W.codeIn K (.ref c) q' = true) : q = q' := by
  unfold PySem.W.codeIn at h h'
  revert h h'
  dsimp only
  intro h h'
  split at h
  · rename_i e
    rw [e] at h'
    revert h h'
    dsimp only
    intro h h'
    split at h
    · rename_i e1
      rw [e1] at h'
      exact (beq_iff_eq.mp h').symm.trans (beq_iff_eq.mp h)
    · cases h
  · cases h
theorem tabOk_k {g : Addr → Option Obj} {K : PySem.W.Frag} (h : tabOk g K = true) : TbK K ∧ ∀ p ∈ tabPairs K, g p.2 = some { cls := .none, data := .fields #[] } := by
  obtain ⟨h1, h2⟩ := Bool.and_eq_true_iff.mp h
  have h := List.all_eq_true.mp h1
  refine ⟨⟨fun p hp => ?_, fun c c' P q q' k1 k2 => ?_⟩, fun p hp => ?_⟩
  · have z := (Bool.and_eq_true_iff.mp (h p hp)).2
    cases e : K.lookup p.2 with
    | none => rfl
    | some o =>
      have b := kbm_bit (lookup_mem e)
      rw [b] at z
      cases z
  · have e := (uqm_ok h2).2 _ (tabPairs_in k1.1) _ (tabPairs_in k2.1) rfl
    have e : c = c' := congrArg Prod.fst e
    subst e
    exact codeIn_uq k1.2 k2.2
  · exact tabE_ok (Bool.and_eq_true_iff.mp (h p hp)).1
def obX (n : Nat) (fa : List He.Fa) (fn : List He.DefD) (chk : PySem.W.Frag → Bool) (g : Addr → Option Obj) : He.AlD × Bool := (fun K => (He.obsD fa fn K, chk K && tabOk g K)) (frT g (asX g n))
def hookX (n : Nat) (fa : List He.Fa) (fn : List He.DefD) (chk : PySem.W.Frag → Bool) : PySem.W.Hook where
  α := He.AlD × Bool
  obs := fun s => obX n fa fn chk s.heap.get?
  val := fun _ => (He.valD fn, true)
  says := fun _ h => ∃ K : PySem.W.Frag, K.In h ∧ He.SaysD fa fn K ∧ chk K = true ∧ TbK K ∧ ∀ p ∈ tabPairs K, h.get? p.2 = some { cls := .none, data := .fields #[] }
  of := fun _ _ e => by
    have e2 := Bool.and_eq_true_iff.mp (congrArg Prod.snd e)
    have e3 := tabOk_k e2.2
    exact ⟨_, frT_in, congrArg Prod.fst e, e2.1, e3.1, e3.2⟩
  keeps := fun _ _ _ ⟨K, hK, c, d, t, g⟩ k => ⟨K, PySem.W.Frag.In.keeps hK k, c, d, t, fun p hp => k _ _ (g p hp)⟩
theorem obX_eq {n : Nat} {fa : List He.Fa} {fn : List He.DefD} {chk : PySem.W.Frag → Bool} {g : Addr → Option Obj} {s : Shared} (h : ∀ a, g a = s.heap.get? a) : obX n fa fn chk g = (hookX n fa fn chk).obs s := by
  have e : g = s.heap.get? := funext h
  rw [e] <;> rfl
/-- a tuple of whole numbers of the module -/
def tupI (K : PySem.W.Frag) (x : Str) (ns : List Int) : Bool := He.tupB K x (ns.map .int) && (match K.lookup (He.ga K x) with
  | some o => decide (o.cls = .type "tuple") && decide (o.dict = none)
  | none => false)
def exmB (K : PySem.W.Frag) (x y : Str) (b : Bool) : Bool := decide (PySem.W.exmOne K (.ref (He.ga K x)) (.ref (He.ga K y)) = some b)
def kitOB (K : PySem.W.Frag) (x y : Str) (b : Bool) : Bool := decide (PySem.W.kitOne K (.ref (He.ga K x)) (.ref (He.ga K y)) = some b)

/-- the law's def, over every base -/
theorem fd_all {P : Program} {w : World} {K : PySem.W.Frag} {mg : Str → Option Value} {k : Nat} {d : He.DefD} {x : Str} {F : List S → Out} {fa : Addr} (hm : mg d.name = some (.ref fa)) (h0 : mg d.name = some (.ref (He.fAd K d.at_))) (hb : BindsA d [x]) (hdf : d.dfl = []) (FD : ∃ fd, FunD K d.name d.qual d.params d.body d.scope (d.dvs K) (d.kws K) (He.fAd K d.at_) fd)
    {Q : Heap → Prop} (c : ∀ base : Heap, Q base → Cal P w K mg base k d [x] F) : ∃ fd : FuncData, (∀ (s : Shared) (v : Value), BindsTo s fd ⟨[v], []⟩ [(x, v)]) ∧ ∀ base : Heap, Q base → Fd P w K mg base k fa fd [x] F := by
  obtain ⟨fd, FD⟩ := FD
  obtain ⟨oc, od, dV, kV, doc, pm, an, cdv, ct, osl, e, lk, hcd, hD, hK⟩ := FD.ex
  have hd : dV = .none := by
    rcases hD with ⟨_, z⟩ | ⟨z, _⟩
    · exact z
    · exact absurd (show d.dvs K = [] by unfold He.DefD.dvs; rw [hdf]; rfl) z
  subst hd
  refine ⟨fd, fun s v => .of_eq (by rw [e]; exact hb kV doc pm an cdv ct [v] rfl), fun base hq => ?_⟩
  obtain ⟨f, fd2, hm2, _, FF, _, oc2, od2, osl2, lk2⟩ := (c base hq).ex
  rw [hm] at h0 hm2
  cases h0
  cases hm2
  rw [lk] at lk2
  cases lk2
  exact FF
/-! ## keywords, by places -/
def permG (n m : Nat) (ix : List Nat) {α : Type} (us ws : List α) : List α := if us.length = n ∧ ws.length = m then ix.filterMap fun i => (us ++ ws)[i]? else []
theorem permG_ok {n m k : Nat} {ix : List Nat} {α : Type} {us ws : List α} (h : (permG n m ix us ws).length = k) (hk : k ≠ 0) : us.length = n ∧ ws.length = m := by
  by_cases q : us.length = n ∧ ws.length = m
  · exact q
  · exfalso
    have e : permG n m ix us ws = [] := if_neg q
    rw [e] at h
    exact hk h.symm
def cBody : Stmt → List Stmt
  | .ClassDef (body := b) .. => b
  | _ => []
theorem Vals.pick {vs : List V} {us : List Value} (r : Vals vs us) : ∀ ix : List Nat, Vals (ix.filterMap fun i => vs[i]?) (ix.filterMap fun i => us[i]?)
  | [] => .nil
  | i :: ix => by
    rw [List.filterMap_cons, List.filterMap_cons]
    cases h : vs[i]? with
    | none =>
      have h2 : us[i]? = none := by
        rw [List.getElem?_eq_none_iff] at h ⊢
        rw [← r.length]
        exact h
      rw [h2]
      exact Vals.pick r ix
    | some v =>
      obtain ⟨u, h2, rv⟩ := r.get h
      rw [h2]
      exact .cons rv (Vals.pick r ix)
theorem gv_perm (n m : Nat) (ix : List Nat) : GVals (permG n m ix) := ⟨fun {vs us zs ws} r rz => by
  unfold permG
  rw [r.length, rz.length]
  split
  · exact Vals.pick (r.append rz) ix
  · exact .nil⟩
section
variable {W : List Addr} {K : PySem.W.Frag} {H H' : Hp}
theorem RVs.get : ∀ {rs : List RV} {vs : List V} {i : Nat}, RVs W K H H' rs vs → (rs[i]? = none ∧ vs[i]? = none) ∨ ∃ r v, rs[i]? = some r ∧ vs[i]? = some v ∧ RVok W K H H' r v
  | [], vs, i, h => by cases (show vs = [] from h); exact .inl ⟨by simp, by simp⟩
  | r :: rs, _, 0, ⟨v, us, e, h1, _⟩ => by subst e; exact .inr ⟨r, v, rfl, rfl, h1⟩
  | r :: rs, _, i + 1, ⟨v, us, e, _, h2⟩ => by subst e; simpa using RVs.get (i := i) h2
theorem RVs.pick {rs : List RV} {vs : List V} (r : RVs W K H H' rs vs) : ∀ ix : List Nat, RVs W K H H' (ix.filterMap fun i => rs[i]?) (ix.filterMap fun i => vs[i]?)
  | [] => rfl
  | i :: ix => by
    rw [List.filterMap_cons, List.filterMap_cons]
    rcases r.get (i := i) with ⟨h1, h2⟩ | ⟨q, v, h1, h2, h3⟩
    · rw [h1, h2]; exact RVs.pick r ix
    · rw [h1, h2]; exact ⟨v, _, rfl, h3, RVs.pick r ix⟩
theorem RVs.append : ∀ {rs qs : List RV} {vs us : List V}, RVs W K H H' rs vs → RVs W K H H' qs us → RVs W K H H' (rs ++ qs) (vs ++ us)
  | [], qs, vs, us, h, q => by cases (show vs = [] from h); exact q
  | r :: rs, qs, _, us, ⟨v, ws, e, h1, h2⟩, q => by subst e; exact ⟨v, ws ++ us, rfl, h1, RVs.append h2 q⟩
theorem gr_perm (n m : Nat) (ix : List Nat) : GRel (permG n m ix) := ⟨fun {W K H H' rs qs vs zs} r rz => by
  unfold permG
  rw [r.len, rz.len]
  split
  · exact RVs.pick (r.append rz) ix
  · exact rfl⟩
end
end DL

set_option maxHeartbeats 2000000
namespace DL
open PySem PySem.Spec PyProof.Rows L2
section
variable {X : Cx} {Wx : WX}
theorem sd_setOLm {lk : List Nat} (i : Nat) {y : Str} {py : Pos} {elt tg iter : Expr} {ifs : List Expr} {scope : Scope} {own : List (Str × Nat)} {pos spos : Pos} {fi : FI} {bind : FG} {ft : FT} {fe : FM} (hc : X.calm = true) (hN : X.N.Nodup)
    (hsw : swapsWith (.ListComp elt [⟨tg, iter, ifs, 0⟩] scope pos) (some (.Name y py)) spos.line X.env = pure true) (hi : IP X tg iter fi) (ok : BlkOk X.N X.env.scope scope own)
    (hg : ∀ (s : Shared) (H : Hp) (C : Addr) (cl : List (Str × Addr)) (fp : List Addr), GP (X.blk s H scope (compEnvC scope cl C X.env) fp) tg (own.map (·.2)) bind)
    (ht : ∀ (s : Shared) (H : Hp) (C : Addr) (cl : List (Str × Addr)) (fp : List Addr), TPs (X.blk s H scope (compEnvC scope cl C X.env) fp) ifs ft)
    (he : ∀ (s : Shared) (H : Hp) (C : Addr) (cl : List (Str × Addr)) (fp : List Addr), PM (X.blk s H scope (compEnvC scope cl C X.env) fp) noW elt fe)
    (hlk : i ∉ lk := by decide) (hy : X.N[i]? = some y := by rfl) (hyl : X.env.scope.names.lookup y = some .local := by rfl)
    (hs : ∀ x, foldedSetIterable iter X.env x = pure x := by intro _; rfl) : SD X Wx lk (.Assign [.Name y py] (.ListComp elt [⟨tg, iter, ifs, 0⟩] scope pos) spos) (sSetO i (mLc (own.map (·.2)) fi bind ft fe)) := by
  refine SD.of ⟨_, ps_setLc (g := tG tg X.K (own.map (·.2)) bind) (tt := tT X.K ft) (te := tM X.K X.mg noW fe) hc hN hy hyl hsw hi.pi ok (fun s H C cl fp => (hg s H C cl fp).pg) (fun s H C cl fp => (ht s H C cl fp).pts) (fun s H C cl fp => (he s H C cl fp).pe) hs, fun W H σ e D sr h => ?_⟩
  exact lm_fin (Wx := Wx) sr (OutK.st (Q0 := fun v H' => D.nx (σ.set i (some v)) H') h fun s v e1 W1 H1 sr1 x1 r fr h1 => putO_st hlk sr.wm sr1 x1 r fr h1)
end
end DL

set_option maxHeartbeats 4000000
namespace DL
open PySem PySem.Spec PyProof.Rows L2
section
variable {X : Cx} {Wx : WX} {lk : List Nat} {a b : Expr} {fa fb : FM} {sts : List Stmt} {pos : Pos}
/-- for over a tuple that is made with effects -/
@[simp] def sForT (fa : FM) (bind : FG) (fb : FS) : FS := fun e => (fa e).st fun s e1 => match s.view with
  | .tup ds => forL bind fb ds e1
  | _ => .stuck
end
end DL

set_option maxHeartbeats 4000000
namespace L2
open PySem PySem.Spec PyProof.Rows
/-! # A run has one end: what several looks promise of a call comes together -/
end L2
namespace DL
open PySem PySem.Spec PyProof.Rows L2
section
variable {X : Cx} {pins : List (Addr × Obj)} {σ : St} {H2 : Hp} {l : List Addr} {ax : Addr}
/-! # min(xs, key=f) -/
/-- what a call that owns nothing leaves -/
structure Up (K : PySem.W.Frag) (H H' : Hp) : Prop where
  keep : ∀ a o, H a = some o → nt o = true → H' a = some o
  dom : ∀ a, H' a = none → H a = none
  tb : TBs K H → TBs K H'
theorem Up.refl {K : PySem.W.Frag} {H : Hp} : Up K H H := ⟨fun _ _ h _ => h, fun _ h => h, fun h => h⟩
theorem Up.trans {K : PySem.W.Frag} {H H1 H2 : Hp} (a : Up K H H1) (b : Up K H1 H2) : Up K H H2 := ⟨fun c o h m => b.keep c o (a.keep c o h m) m, fun c h => a.dom c (b.dom c h), fun t => b.tb (a.tb t)⟩
theorem Up.grow {K : PySem.W.Frag} {W : List Addr} {H H' : Hp} (g : Up K H H') (wm : WM W H) : Grow K W H W H' := Grow.base (W' := W) ⟨g.keep, g.dom, g.tb, fun _ h => h, fun _ h => .inl h, fun a h => by
  have q := wm a h
  cases z : H a with
  | none => rw [z] at q; exact q.elim
  | some o => rw [g.keep a o z (mut_nt (by rw [← z]; exact q)), ← z]; exact q⟩ wm
/-- a look at the heap while a builtin walks: l: the builtin's own objects -/
structure Vw (X : Cx) (pins : List (Addr × Obj)) (σ : St) (H2 : Hp) (l : List Addr) (ax : Addr) (H' : Hp) (s : Shared) : Prop where
  inv : Inv X pins σ H' s
  sub : Up X.K H2 H'
  fp : ∀ b ∈ l, FpOk X pins H' b
  no : H' ax = none
  tb : TBs X.K H'
theorem env_in {A' : Around} {H' : Hp} {s : Shared} (I : Inv X pins σ H' s) (hf : A'.frames = X.A.frames) : Env0 X.prog X.w X.K X.mg X.base A' X.stack s H' :=
  have e := I.env0
  ⟨hf.trans e.frames, e.mod, e.bs, e.bsz, e.funs, e.frf, e.hok, e.bare⟩
/-- one call of the key -/
theorem Vw.call {k : Nat} {f : Addr} {fd : FuncData} {ps : List Str} {F : List S → Out} {A' : Around} {H' : Hp} {s : Shared} {d y : D} {e' : En} {vd : V} {u : Value} (FF : Fd X.prog X.w X.K X.mg X.base k f fd ps F) (hr : Room k A') (hgd : A'.guards = some []) (hf : A'.frames = X.A.frames)
    (v : Vw X pins σ H2 l ax H' s) (hl : ∀ b ∈ l, ∃ o, s.heap.get? b = some o) (hax : ∃ o, s.heap.get? ax = some o) (rd : Rp [] X.K H' d vd) (ru : RelV vd u) (hF : F [.d d] = .ok (.d y) e') (hp : ps.length = 1) (hb : BindsTo s fd ⟨[u], []⟩ (ps.zip [u])) :
    codeAny (model X.prog X.w) A' (.call (.ref f) ⟨[u], []⟩) (fun r s' => ∃ q, r = .ok (.ret q) ∧ (∃ H'' kv, Vw X pins σ H2 l ax H'' s' ∧ Up X.K H' H'' ∧ Rp [] X.K H'' y kv ∧ RelV kv q) ∧ ∀ b o, s.heap.get? b = some o → H' b = none → b ∉ frs X.stack → s'.heap.get? b = some o) s := by
  obtain ⟨I, g, fp, no, tb⟩ := v
  have w0 : WM ([] : List Addr) H' := fun a h => by simp at h
  have sr : SR [] X.K H' ([vd].map some) ([S.d d].map some) := frame_of (W := []) tb w0 (ds := [d]) (vs := [vd]) ⟨vd, [], rfl, rd, rfl⟩
  have out : OutK X.K X.mg (fun c d _ H' => (fun _ _ _ => False : XK) c d H') [] H' ([vd].map some) ([S.d d].map some) (fun kv H'' => Rp [] X.K H'' y kv ∧ Up X.K H' H'') (F [.d d]) := by
    rw [hF]
    intro v W' H'' sr' x rs fr
    exact ⟨Rp.weak (W := []) (fun a h => by simp at h) (fun a h => by simp at h) rs sr'.wm, ⟨fun a o h m => x.keep a o h (no_own (ds := [d])) m, x.dom, fun _ => sr'.tb⟩⟩
  refine codeAny_mono (FF.run A' X.stack s H' ⟨[u], []⟩ [u] [vd] [.d d] [] _ (fun _ _ _ => False) hr hgd (env_in I hf) hb (.cons ru .nil) (by rw [hp]; rfl) sr out) fun r s' hq => ?_
  cases r with
  | error e =>
    obtain ⟨_, _, _, _, _, _, _, _, _, _, _, _, z⟩ := (show CX X.prog X.w X.stack H' s (fun _ _ _ => False) e s' from hq)
    exact z.elim
  | ok fl =>
    cases fl with
    | next => exact False.elim hq
    | brk => exact False.elim hq
    | cont => exact False.elim hq
    | ret q =>
      obtain ⟨kv, H'', os, bare, un, hok, r, q1, q2⟩ := (show CE X.stack X.prog X.w H' s _ q s' from hq)
      refine ⟨q, rfl, ⟨H'', kv, ⟨I.call' (ch := []) os un hok bare ((fun b hb => nomatch hb)), g.trans q2, fun b hb => ?_, ?_, q2.tb tb⟩, q2, q1, r⟩, fun b o e n hfs => un.keep b o e n hfs (fun z => nomatch z)⟩
      · obtain ⟨o, ho⟩ := hl b hb
        exact ⟨un.free b o ho (fp b hb).1 (fun z => nomatch z), (fp b hb).2⟩
      · obtain ⟨o, ho⟩ := hax
        exact un.free ax o ho no (fun z => nomatch z)
/-- the list at ax is looked at no longer -/
def dropL (H : Hp) (ax : Addr) : Hp := fun b => if b = ax then none else H b
theorem dropL_of {H : Hp} {ax b : Addr} {o : HO} (h : H b = some o) (n : b ≠ ax) : dropL H ax b = some o := by
  unfold dropL
  rw [if_neg n]
  exact h
theorem TBs.drop {K : PySem.W.Frag} {H : Hp} {ax : Addr} {ys : List V} (t : TBs K H) (h : H ax = some (.lst ys)) : TBs K (dropL H ax) := by
  refine ⟨fun c P q hb => ?_, t.uq⟩
  obtain ⟨ps, h1, h2, h3⟩ := t.all c P q hb
  refine ⟨ps, dropL_of h1 (fun z => by rw [z, h] at h1; cases h1), h2, fun pos cv hc => ?_⟩
  obtain ⟨c', e1, e2⟩ := h3 pos cv hc
  exact ⟨c', e1, dropL_of e2 (fun z => by
    rw [z, h] at e2
    exact codeO_lst (Option.some.inj e2))⟩
def okK (x y : D) : Bool := x.okp && y.okp && decide (x.py.depth ≤ 64) && decide (y.py.depth ≤ 64) && PySem.W.alike x.py x.py && PySem.W.alike x.py y.py && PySem.W.alike y.py x.py && PySem.W.alike y.py y.py && !x.isNon && !y.isNon
def keyD (x y : D) (i : Nat) : D := if i = 0 then x else y
/-- the answer of the key, as the heap shows it -/
def KV (X : Cx) (pins : List (Addr × Obj)) (σ : St) (H2 : Hp) (l : List Addr) (ax : Addr) (x y : D) (i : Nat) (k : Value) (s : Shared) : Prop := ∃ H' kv, Vw X pins σ H2 l ax H' s ∧ Rp [] X.K H' (keyD x y i) kv ∧ RelV kv k
def btD (x y : D) (i j : Nat) : Bool := PySem.W.dataLt (keyD x y i).py (keyD x y j).py
def rMinK (K : PySem.W.Frag) (F : List S → Out) (f : Addr) : List V → List V → Hp → VK → Prop := fun xs zs H Q => ∃ (ax : Addr) (va vb : V) (da db x y : D) (ea eb : En), xs = [.ref ax] ∧ zs = [.ref f] ∧ H ax = some (.lst [va, vb]) ∧
  Rp [] K (dropL H ax) da va ∧ Rp [] K (dropL H ax) db vb ∧ F [.d da] = .ok (.d x) ea ∧ F [.d db] = .ok (.d y) eb ∧ okK x y = true ∧ TBs K H ∧ ∀ H'', Up K (dropL H ax) H'' → Q (if PySem.W.dataLt y.py x.py = true then vb else va) H''
/-- min of a list of two by a key -/
def pMinK (F : List S → Out) (fa : FP) : FP := fun e => (fa e).bind fun r => match r with
  | .fr [a, b] => (match F [.d a], F [.d b] with
    | .ok (.d x) _, .ok (.d y) _ => if a.flat = true ∧ b.flat = true ∧ okK x y = true then some (.fz (if PySem.W.dataLt y.py x.py = true then b else a)) else none
    | _, _ => none)
  | _ => none
variable {k : Nat} {d : He.DefD} {ps : List Str} {F : List S → Out} {fx : Str} {p pf pos kpos : Pos} {a : Expr} {fa : FP}
/-! # x < y, for data of one shape -/
def rLtD (K : PySem.W.Frag) : R2 := fun x y H Q => ∃ d e, Dp K H x d ∧ Dp K H y e ∧ PySem.W.alike d e = true ∧ d ≠ .none ∧ min d.depth e.depth ≤ 64 ∧ Q (.bl (PySem.W.dataLt d e)) H
def gLtD (x y : D) : Option RV := if x.okp = true ∧ y.okp = true ∧ PySem.W.alike x.py y.py = true ∧ x.isNon = false ∧ min x.py.depth y.py.depth ≤ 64 then some (.fz (.bl (PySem.W.dataLt x.py y.py))) else none
end
end DL

set_option maxHeartbeats 4000000
namespace DL
open PySem PySem.Spec PyProof.Rows L2
/-! # sorted(xs, key=f) -/
section
variable {X : Cx} {pins : List (Addr × Obj)} {σ : St} {H2 : Hp} {l : List Addr} {ax : Addr}
theorem Vw.heap {H' : Hp} {s s' : Shared} (v : Vw X pins σ H2 l ax H' s) (mh : ∀ b o, b ∉ l → s.heap.get? b = some o → s'.heap.get? b = some o) (mg : s'.gens = s.gens) (mo : s'.os = s.os) : Vw X pins σ H2 l ax H' s' := by
  obtain ⟨I, g, fp, no, tb⟩ := v
  have nl : ∀ b u, H' b = some u → b ∉ l := fun b u e z => by have := (fp b z).1; rw [this] at e; cases e
  refine ⟨I.call' (ch := l) mo ⟨fun b o e n hf hx => mh b o hx e, fun b o e n hf hx => ⟨o.slots, mh b o hx e⟩, fun _ _ _ n _ => n, fun b o e hx => ⟨o, mh b o hx e⟩, fun _ _ e => e, fun _ _ _ e => e, fun b ps e => ⟨#[], by rw [e]; simp⟩⟩
    (fun b u e => (I.hok b u e).stay (fun c v hc q => mh c v ?_ q) (fun _ q => q) fun _ _ q => q) (by rw [mg]; exact I.bare) (fun b hb => ⟨(fp b hb).2.2.2.1, (fp b hb).2.1, (fp b hb).2.2.2.2.1, (fp b hb).2.2.2.2.2⟩), g, fp, no, tb⟩
  rcases hc with z | z
  · rw [z]; exact nl b u e
  · exact nl c _ z
/-- the answer y of the key, as the heap shows it -/
def KA (X : Cx) (pins : List (Addr × Obj)) (σ : St) (H2 : Hp) (l : List Addr) (ax : Addr) (y : D) (k : Value) (s : Shared) : Prop := ∃ H' kv, Vw X pins σ H2 l ax H' s ∧ Rp [] X.K H' y kv ∧ RelV kv k
/-- the key of an item -/
def keyF (F : List S → Out) (d : D) : D := match F [.d d] with
  | .ok (.d y) _ => y
  | _ => .non
def keyT (F : List S → Out) (d : D) : Bool := match F [.d d] with
  | .ok (.d _) _ => true
  | _ => false
def tupK : PyData → Bool
  | .tuple (_ :: _) => true
  | _ => false
/-- items that may be sorted by the key: flat, keys that are alike tuples -/
def okSort (F : List S → Out) (ds : List D) : Bool := (ds.all fun d => d.flat && keyT F d && (keyF F d).okp && decide ((keyF F d).py.depth ≤ 64) && tupK (keyF F d).py) && ds.all fun d => ds.all fun e => PySem.W.alike (keyF F d).py (keyF F e).py
def pSortK (F : List S → Out) (fa : FP) : FP := fun e => (fa e).bind fun r => match r.view with
  | .lst ds => if okSort F ds = true then some (.fr (ds.mergeSort (PySem.W.dataLe false fun d => (keyF F d).py))) else none
  | _ => none
def rSortK (K : PySem.W.Frag) (F : List S → Out) (f : Addr) : List V → List V → Hp → VK → Prop := fun xs zs H Q => ∃ (ax : Addr) (vs : List V) (ds : List D), xs = [.ref ax] ∧ zs = [.ref f] ∧ SqL K H ax vs ∧ RpL [] K H ds vs ∧ okSort F ds = true ∧ TBs K H ∧
  ∀ H'' p vs', Up K H H'' → H'' p = none → RpL [] K H (ds.mergeSort (PySem.W.dataLe false fun d => (keyF F d).py)) vs' → Q (.ref p) (upd H'' p (.lst vs'))
variable {k : Nat} {d : He.DefD} {ps : List Str} {F : List S → Out} {fx : Str} {p pf pos kpos : Pos} {a : Expr} {fa : FP}
end
end DL

set_option maxHeartbeats 4000000
/-! # enumerate of a tuple -/
namespace DL
open PySem PySem.Spec PyProof.Rows L2
section
variable {prog : Program} {w : World} {A : Around} {E : Value → Shared → Prop} {s : Shared}
end
/-- the tuple at a, each item in a new pair -/
def Ite2 (K : PySem.W.Frag) (a : Addr) : It :=
  ⟨fun i H => ∃ (xs : List V) (x : V), SqT K H a xs ∧ xs[i]? = some x, fun i H v H' => ∃ T x, v = .ref T ∧ H T = none ∧ H' = upd H T (.tup [.int (i : Nat), x]) ∧ ∀ xs, SqT K H a xs → xs[i]? = some x, fun i H => ∃ xs : List V, SqT K H a xs ∧ xs.length ≤ i⟩
/-- enumerate of a list or of a tuple -/
def iEnX (K : PySem.W.Frag) (ta : TA) : TI := fun σ H R => ta σ H fun vs H1 => ∃ a xs, vs = [.ref a] ∧ ((SqL K H1 a xs ∧ R (Ite K a) H1) ∨ (SqT K H1 a xs ∧ R (Ite2 K a) H1))
end DL

set_option maxHeartbeats 4000000
namespace DL
open PySem PySem.Spec PyProof.Rows L2
/-! # enumerate of a list, t.count(x), l.index(x) -/
section
variable {X : Cx} {W : List Addr} {K : PySem.W.Frag} {H : Hp} {elts : List Expr} {kk : Nat} {tpos : Pos}
def enumD : Nat → List D → List D
  | _, [] => []
  | i, x :: xs => .tup [.int (i : Nat), x] :: enumD (i + 1) xs
@[simp] def enumX : List D → Option (List D × Bool)
  | [.lst xs] => some (enumD 0 xs, true)
  | [.ro xs] => some (enumD 0 xs, true)
  | [.tup xs] => some (enumD 0 xs, true)
  | _ => none
@[simp] def enumR (rs : List RV) : Option (List D × Bool) := (items rs).bind enumX
@[simp] def iEnm (fs : FA) : FI := fun e => (fs e).bind enumR
def rCntT (K : PySem.W.Frag) : V → List V → Hp → VK → Prop := fun x xs H Q => ∃ (p : Addr) (ns : List Int) (k : Int), x = .ref p ∧ xs = [.int k] ∧ SqT K H p (ns.map V.int) ∧ Q (.int (ns.count k : Nat)) H
def tBMT (K : PySem.W.Frag) (r : V → List V → Hp → VK → Prop) (to : TE) (t : TA) : TE := fun σ H Q => to σ H fun x H1 => (∃ p xs, x = .ref p ∧ TqT K H1 p xs) ∧ t σ H1 fun xs H2 => r x xs H2 Q
@[simp] def tcR : D → D → Option RV
  | .tup xs, .int i => (ints? xs).map fun ns => .fz (.int (ns.count i : Nat))
  | _, _ => none
@[simp] def pTc (fo fa : FP) : FP := fun e => (fo e).bind fun r => (fa e).bind fun x => tcR r.view x.view
@[simp] def liR : D → D → Option RV
  | .lst xs, .int i => (ints? xs).bind fun ns => if i ∈ ns then some (.fz (.int (ns.idxOf i : Nat))) else none
  | _, _ => none
@[simp] def pLi (fo fa : FP) : FP := fun e => (fo e).bind fun r => (fa e).bind fun x => liR r.view x.view
end
end DL

set_option maxHeartbeats 4000000
namespace DL
open PySem PySem.Spec PyProof.Rows L2
/-! # From here on the list of slot i stands frozen -/
@[simp] def frz (i : Nat) (e : En) : En := match e[i]? with
  | some (some (.lst xs)) => e.set i (some (.d (.lst xs)))
  | _ => e
@[simp] def sFz (i : Nat) (f : FS) : FS := fun e => f (frz i e)
section
variable {X : Cx} {Wx : WX} {lk : List Nat} {W : List Addr} {K : PySem.W.Frag} {H : Hp} {σ : St} {e : En}
end
end DL

set_option maxHeartbeats 4000000
namespace DL
open PySem PySem.Spec PyProof.Rows L2
/-! # {t: True for t in ts}, the keys tuples; sorted by a key -/
abbrev XE := List Key × Addr × Value
/-- a dict with tuple keys, by its own object alone -/
def DX (P : Program) (w : World) (D : Addr) (xs : List XE) : HO := .ext fun h => ∃ o es ep, h.get? D = some o ∧ o.ExactDict ∧ o.data = .dict es ep ∧ es.toList = xs.map (entryOfKey (tupleKind (mixKind P w)))
section
variable {P : Program} {w : World} {H : Hp} {h : Heap} {D : Addr} {xs : List XE}
end
/-- the keys' tuples stand -/
def DXk (K : PySem.W.Frag) (H : Hp) (xs : List XE) : Prop := (∀ x ∈ xs, SqT K H x.2.1 (x.1.map kV)) ∧ (xs.map (·.1)).Nodup
section
variable {X : Cx} {pins : List (Addr × Obj)} {σ : St} {H : Hp} {s : Shared} {D b : Addr} {xs : List XE}
end
section
variable {X : Cx}
/-- {k: v for target in iter}, the keys tuples: D the new dict -/
def tDx (P : Program) (w : World) (K : PySem.W.Frag) (wi : TI) (g : TG) (tk tv : TE) (vs : List Nat) : TE := fun σ H Q => wi σ H fun J H1 => ∀ D, H1 D = none → (D == sysModules) = false → ∃ Wi : Nat → Nat → Hp → Prop, (∃ m, Wi 0 m (upd H1 D (DX P w D []))) ∧ ∀ i m H, Wi i m H →
  (J.stop i H ∧ Q (.ref D) H) ∨ (J.go i H ∧ ∃ Nx : Hp → Prop, (∀ H', Nx H' → ∃ m', m' < m ∧ Wi (i + 1) m' H') ∧ ∀ x H', J.yld i H x H' → g x (wipe σ vs) H' fun σ2 H2 => wipe σ2 vs = wipe σ vs ∧
    tk σ2 H2 fun y H4 => tv σ2 H4 fun z H5 => ∃ xs k b, y = .ref b ∧ H5 D = some (DX P w D xs) ∧ xs.length ≤ sizeLine ∧ SqT K H5 b (k.map kV) ∧ DXk K H5 xs ∧ ∀ r, RelV z r → Nx (upd H5 D (DX P w D (storedH xs k b r))))
end
end DL

set_option maxHeartbeats 4000000
namespace DL
open PySem PySem.Spec PyProof.Rows L2
/-! # sorted({t: True for t in ts}, key=f) -/
def keyI (w : List Int) : List Key := w.map Sum.inl
theorem keyI_inj {v w : List Int} (h : keyI v = keyI w) : v = w := by
  unfold keyI at h
  exact (List.map_inj_right fun a b q => Sum.inl.inj q).mp h
abbrev twD (w : List Int) : D := .tup (dints w)
/-- unlike ones, the first ones stay -/
def addU (acc : List (List Int)) (w : List Int) : List (List Int) := if w ∈ acc then acc else acc ++ [w]
def uniq (ws : List (List Int)) : List (List Int) := ws.foldl addU []
theorem uniq_snoc (ws : List (List Int)) (w : List Int) : uniq (ws ++ [w]) = addU (uniq ws) w := by
  unfold uniq
  rw [List.foldl_append]
  rfl
@[simp] def iw? : D → Option (List Int)
  | .tup xs => ints? xs
  | _ => none
def iws? : List D → Option (List (List Int))
  | [] => some []
  | d :: ds => (iw? d).bind fun w => (iws? ds).map fun ws => w :: ws
/-- the dict's entries tell the words -/
structure XsOk (W : List Addr) (K : PySem.W.Frag) (H : Hp) (xs : List XE) (acc : List (List Int)) : Prop where
  keys : xs.map (·.1) = acc.map keyI
  rp : RpL W K H (acc.map twD) (xs.map fun x => V.ref x.2.1)
  nd : acc.Nodup
theorem XsOk.len {W : List Addr} {K : PySem.W.Frag} {H : Hp} {xs : List XE} {acc : List (List Int)} (h : XsOk W K H xs acc) : xs.length = acc.length := by
  have := congrArg List.length h.keys
  rw [List.length_map, List.length_map] at this
  exact this
theorem addU_len (acc : List (List Int)) (w : List Int) : (addU acc w).length ≤ acc.length + 1 := by
  unfold addU
  split
  · omega
  · rw [List.length_append]; exact Nat.le_refl _
theorem uniq_len (ws : List (List Int)) : (uniq ws).length ≤ ws.length := by
  have : ∀ (ws acc : List (List Int)), (ws.foldl addU acc).length ≤ acc.length + ws.length := by
    intro ws
    induction ws with
    | nil => exact fun acc => Nat.le_refl _
    | cons w ws ih =>
      intro acc
      have a := ih (addU acc w)
      have b := addU_len acc w
      rw [List.foldl_cons, List.length_cons]
      omega
  have q := this ws []
  rw [List.length_nil, Nat.zero_add] at q
  exact q
theorem XsOk.put {W : List Addr} {K : PySem.W.Frag} {H : Hp} {xs : List XE} {acc : List (List Int)} {w : List Int} {b : Addr} {r : Value} (h : XsOk W K H xs acc) (hb : Rp W K H (twD w) (.ref b)) : XsOk W K H (storedH xs (keyI w) b r) (addU acc w) := by
  have mem : (atKey xs (keyI w)).isSome = true ↔ w ∈ acc := by
    have e : (atKey xs (keyI w)).isSome = true ↔ keyI w ∈ xs.map (·.1) := by
      unfold atKey
      rw [Option.isSome_map, List.find?_isSome]
      simp only [decide_eq_true_eq, List.mem_map]
    rw [e, h.keys, List.mem_map]
    exact ⟨fun ⟨a, ha, q⟩ => keyI_inj q ▸ ha, fun q => ⟨w, q, rfl⟩⟩
  unfold storedH addU
  by_cases q : w ∈ acc
  · rw [if_pos q, if_pos (mem.mpr q)]
    refine ⟨by rw [keys_map_putAt]; exact h.keys, ?_, h.nd⟩
    have e : (xs.map (PySem.putAt (keyI w) r)).map (fun x => V.ref x.2.1) = xs.map fun x => V.ref x.2.1 := by
      rw [List.map_map]
      refine List.map_congr_left fun x _ => ?_
      show V.ref (PySem.putAt (keyI w) r x).2.1 = _
      unfold PySem.putAt
      split <;> rfl
    rw [e]
    exact h.rp
  · rw [if_neg q, if_neg fun z => q (mem.mp z)]
    refine ⟨by rw [List.map_append, List.map_append, h.keys]; rfl, ?_, ?_⟩
    · rw [List.map_append, List.map_append]
      exact h.rp.append (.one hb)
    · rw [List.nodup_append]
      refine ⟨h.nd, by simp, fun a ha b hb z => q ?_⟩
      rw [List.mem_singleton.mp hb] at z
      rw [← z]
      exact ha
theorem XsOk.mono {W W' : List Addr} {K : PySem.W.Frag} {H H' : Hp} (x : Ex W H W' H') {xs : List XE} {acc : List (List Int)} (h : XsOk W K H xs acc) : XsOk W' K H' xs acc := ⟨h.keys, RpL.mono x _ h.rp, h.nd⟩
@[simp] def pSortD (F : List S → Out) (vs : List Nat) (fi : FI) (bind : FG) (fk : FP) : FP := fun e => (fi e).bind fun p => (lcL bind tAll fk (wipeE e vs) p.1).bind fun ks => (iws? ks).bind fun ws =>
  if ws.length ≤ SZ ∧ okSort F ((uniq ws).map twD) = true then some (.fr (((uniq ws).map twD).mergeSort (PySem.W.dataLe false fun d => (keyF F d).py))) else none
/-- between the turns -/
structure DxAt (P : Program) (w : World) (K : PySem.W.Frag) (W' : List Addr) (H1 : Hp) (D0 : Addr) (bind : FG) (fk : FP) (e : En) (ds : List D) (ws : List (List Int)) (i : Nat) (H : Hp) (W2 : List Addr) (xs : List XE) : Prop where
  g : Grow K W' H1 W2 H
  dm : D0 ∈ W2
  at_ : H D0 = some (DX P w D0 xs)
  ok : XsOk W2 K H xs (uniq (ws.take i))
  todo : lcL bind tAll fk e (ds.drop i) = some ((ws.drop i).map twD)
section
variable {X : Cx}
def rSortD (X : Cx) (F : List S → Out) (f : Addr) : List V → List V → Hp → VK → Prop := fun xs zs H Q => ∃ (D0 : Addr) (es : List XE) (ds : List D), xs = [.ref D0] ∧ zs = [.ref f] ∧ H D0 = some (DX X.prog X.w D0 es) ∧ (D0 == sysModules) = false ∧ es.length ≤ sizeLine ∧ RpL [] X.K H ds (es.map fun x => V.ref x.2.1) ∧ okSort F ds = true ∧ TBs X.K H ∧
  ∀ H'' p vs', Up X.K H H'' → H'' p = none → RpL [] X.K H (ds.mergeSort (PySem.W.dataLe false fun d => (keyF F d).py)) vs' → Q (.ref p) (upd H'' p (.lst vs'))
end
end DL

set_option maxHeartbeats 4000000
namespace DL
open PySem PySem.Spec PyProof.Rows L2
section
variable {X : Cx} {k : Nat} {d : He.DefD} {ps : List Str} {F : List S → Out} {fx : Str} {p pf pos kpos dpos cp : Pos} {kx tg iter : Expr} {scope : Scope} {own : List (Str × Nat)} {fi : FI} {bind : FG} {fk : FP} {ck : Nat}
end
end DL

set_option maxHeartbeats 4000000
namespace DL
open PySem PySem.Spec PyProof.Rows L2
/-! # sorted(xs), the items alike tuples; an expression that looks at an owned list -/
section
variable {X : Cx}
def okData (ds : List D) : Bool := (ds.all fun d => d.okp && decide (d.py.depth ≤ 64) && tupK d.py) && ds.all fun d => ds.all fun e => PySem.W.alike d.py e.py
def rSortA (K : PySem.W.Frag) : List V → Hp → VK → Prop := fun xs H Q => ∃ (W : List Addr) (ax : Addr) (vs : List V) (ds : List D), xs = [.ref ax] ∧ SqL K H ax vs ∧ RpL W K H ds vs ∧ okData ds = true ∧
  ∀ p vs', H p = none → RpL W K H (ds.mergeSort (PySem.W.dataLe false D.py)) vs' → Q (.ref p) (upd H p (.lst vs'))
theorem u0 (h : X.A.units + 110 < cLine) : X.A.units < cLine := by omega
def gSorted : List D → Option RV
  | [.lst ds] => if okData ds = true then some (.fr (ds.mergeSort (PySem.W.dataLe false D.py))) else none
  | _ => none
@[simp] def sclr : RV → Option RV
  | .fz (.str z) => some (.fz (.str z))
  | .fz (.bl b) => some (.fz (.bl b))
  | .fz (.int i) => some (.fz (.int i))
  | _ => none
@[simp] def pView (i : Nat) (f : FP) : FP := fun e => (f (frz i e)).bind sclr
end
end DL

set_option maxHeartbeats 4000000
namespace DL
open PySem PySem.Spec PyProof.Rows L2
/-! # a, b = x, y by a new tuple, one of them a new list -/
section
variable {X : Cx} {Wx : WX} {lk : List Nat} {a b : Expr} {pos : Pos}
end
end DL

set_option maxHeartbeats 4000000
namespace DL
open PySem PySem.Spec PyProof.Rows L2
/-! # defs with defaults: the last dv.length parameters are not given -/
def dInt : List Int → List D := fun ns => ns.map D.int
structure CalB (P : Program) (w : World) (K : PySem.W.Frag) (mg : Str → Option Value) (base : Heap) (k : Nat) (d : He.DefD) (ps : List Str) (dv : List Int) (F : List S → Out) : Prop where
  ex : ∃ (f : Addr) (fd : FuncData) (ds : List Value), mg d.name = some (.ref f) ∧ PySem.W.keepIn K (.ref f) = true ∧ Fd P w K mg base k f fd ps F ∧ Vals (dv.map V.int) ds ∧ Binds K fd ps ds
theorem CalB.mono {P : Program} {w : World} {K : PySem.W.Frag} {mg : Str → Option Value} {base : Heap} {k k' : Nat} {d : He.DefD} {ps : List Str} {dv : List Int} {F : List S → Out} (h : CalB P w K mg base k d ps dv F) (hk : k ≤ k') : CalB P w K mg base k' d ps dv F :=
  let ⟨f, fd, ds, a, b, c, e⟩ := h.ex; ⟨⟨f, fd, ds, a, b, c.mono hk, e⟩⟩
/-- how the values and the defaults come to the parameters -/
def BindsD (d : He.DefD) (ps : List Str) (n j m : Nat) : Prop := ∀ (T : Addr) (kV doc pm : Value) (an : Option Addr) (cdv ct : Value) (us its : List Value), us.length = n → its.length = m →
      ∃ k, bindArgs (PySem.W.fnOf d.name d.qual d.params d.body d.scope (.ref T) kV doc pm an cdv ct) ⟨us, []⟩ = seqItems? (.ref T) >>= k ∧ k (some its.toArray) = pure (ps.zip (us ++ its.drop j))
theorem fd_ofD {P : Program} {w : World} {K : PySem.W.Frag} {mg : Str → Option Value} {base : Heap} {d : He.DefD} {N ps : List Str} {k : Nat} {lk : List Nat} {fb : FS} {ns : List Int} {n j : Nat} (hm : mg d.name = some (.ref (He.fAd K d.at_))) (FD : ∃ fd, FunD K d.name d.qual d.params d.body d.scope (d.dvs K) (d.kws K) (He.fAd K d.at_) fd)
    (hdf : d.dfl = ns.map He.Dv.int) (hne : ns ≠ []) (hl : n + (ns.length - j) = ps.length) (hbd : BindsD d ps n j ns.length) (SC : FnScope N ps d.scope)
    (hb : ∀ (cdv : Value) (A : Around) (outer : List Env) (s : Shared) (H : Hp) (E : XK), Room k (A.deeper (envOfC d.qual d.scope s.heap.objs.size (He.fAd K d.at_) cdv)) → A.guards = some [] →
      SDs (cxOf (CX P w) P w K mg base N d.qual d.scope (He.fAd K d.at_) cdv A outer s H E) (fun c d _ H' => E c d H') lk d.body fb) : CalB P w K mg base (k + 1) d ps (ns.drop j) (fnF N.length lk fb) := by
  obtain ⟨fd, FD⟩ := FD
  have e : d.dvs K = ns.map V.int := by
    unfold He.DefD.dvs
    rw [hdf, List.map_map]
    rfl
  have l : (d.dvs K).length = ns.length := by rw [e, List.length_map]
  obtain ⟨ds, v, b⟩ := FD.binds1 (ps := ps) n j (by rw [e]; simpa using hne) (by rw [l]; exact hl) (by rw [l]; exact hbd)
  refine ⟨⟨_, fd, ds, hm, FD.kp, fd_of FD SC hb, ?_, b⟩⟩
  rw [e, ← List.map_drop] at v
  exact v
section
variable {X : Cx} {Wx : WX} {k : Nat} {d : He.DefD} {ps : List Str} {dv : List Int} {F : List S → Out} {x : Str} {p pos : Pos} {a : Expr} {es : List Expr} {t : TA} {fs : FA}
def tFdD (K : PySem.W.Frag) (mg : Str → Option Value) (n : Nat) (dv : List Int) (F : List S → Out) (Wx : WX) (t : TA) : TE := fun σ H Q => t σ H fun vs H1 => spF K mg n F (fun c d H' => Wx c d σ H') (vs ++ dv.map V.int) H1 Q
theorem pe_fdD (c : CalB X.prog X.w X.K X.mg X.base k d ps dv F) (hx : d.name = x) (hr : Room k X.A) (hgd : X.A.guards = some []) (tk : Takes X Wx) (ha : PA X (a :: es) t) (hg : Gl X x)
    (hdb : (x == ("__debug__" : Str)) = false := by decide) (he : starEach (a :: es) X.env = (false, eval a X.env) :: starEach es X.env := by rfl) (hpl : (backTo pos (starEach es X.env)).any (·.1) = false := by rfl) :
    PE X (.Call (.Name x p) (a :: es) [] pos) (tFdD X.K X.mg ps.length dv F Wx t) := by
  obtain ⟨f, fd, ds, hm, hk, FF, hv, hb⟩ := c.ex
  rw [hx] at hm
  refine ⟨fun pins s σ H Q I h => wpAny_Call_Name_kw (ld_glob I hg hm ?_ hdb)⟩
  refine PySem.W.callWith_K (h₀ := X.base) I.ok.mod.kin hk (thn (ha.run pos pins s σ H _ I h) fun us s1 ⟨vs, H1, I1, r, q⟩ => ⟨I1.kIn, ?_⟩) he hpl
  have r2 := r.append hv
  exact run_fd FF hr hgd tk (hb s1 us I1.kIn (by rw [← r2.length]; exact q.1)) I1 r2 q
@[simp] def aDf (dv : List Int) (fs : FA) : FA := fun e => (fs e).map (· ++ dv.map fun i => RV.fz (.int i))
theorem rvs_ints {W : List Addr} {K : PySem.W.Frag} {H H' : Hp} : ∀ dv : List Int, RVs W K H H' (dv.map fun i => RV.fz (.int i)) (dv.map V.int)
  | [] => rfl
  | i :: dv => ⟨.int i, dv.map V.int, rfl, rfl, rvs_ints dv⟩
theorem pp_fdD (c : CalB X.prog X.w X.K X.mg X.base k d ps dv F) (hx : d.name = x) (hr : Room k X.A) (hgd : X.A.guards = some []) (ha : PPs X (a :: es) fs) (hg : Gl X x := by rfl)
    (hdb : (x == ("__debug__" : Str)) = false := by decide) (he : starEach (a :: es) X.env = (false, eval a X.env) :: starEach es X.env := by rfl) (hpl : (backTo pos (starEach es X.env)).any (·.1) = false := by rfl)
    (hfl : ∀ e rs, aDf dv fs e = some rs → rs.length = ps.length) : PP X (.Call (.Name x p) (a :: es) [] pos) (pFd F (aDf dv fs)) := by
  obtain ⟨t, pa, ka⟩ := ha.run
  refine PP.of ⟨_, pe_fdD c hx hr hgd takes_no pa hg hdb he hpl, fun W H σ e Q r sr hf kq => ?_⟩
  obtain ⟨rs, e1, hf⟩ := Option.bind_eq_some_iff.mp hf
  have ln := hfl e rs e1
  obtain ⟨rs0, e0, e2⟩ := Option.map_eq_some_iff.mp e1
  subst e2
  refine ka W H σ e _ rs0 sr e0 fun vs W1 H1 g1 k1 => ?_
  have k2 := k1.append (rvs_ints dv)
  exact callP_ok sr.tb sr.wm g1 k2 hf kq (by rw [← k2.len]; exact ln)
theorem aDf_len {dv : List Int} {fs : FA} {n : Nat} (h : ∀ e rs, fs e = some rs → rs.length = n) : ∀ e rs, aDf dv fs e = some rs → rs.length = n + dv.length := fun e rs q => by
  obtain ⟨r, e1, q⟩ := Option.map_eq_some_iff.mp q
  subst q
  rw [List.length_append, List.length_map, h e r e1]
/-! # list(range(..)) -/
@[simp] def pLr1 (fa : FP) : FP := fun e => (fa e).bind fun r => match r with
  | .fz (.int j) => if i62 j = true ∧ j ≤ 1000000 then some (.fr (rangeD 0 j.toNat)) else none
  | _ => none
@[simp] def pLr2 (fa fb : FP) : FP := fun e => (fa e).bind fun r => (fb e).bind fun q => match r, q with
  | .fz (.int i), .fz (.int j) => if i62 i = true ∧ i62 j = true ∧ j - i ≤ 1000000 then some (.fr (rangeD i (j - i).toNat)) else none
  | _, _ => none
end
end DL

set_option maxHeartbeats 4000000
namespace DL
open PySem PySem.Spec PyProof.Rows L2
open PySem.W (Frag findIn typeIn keepIn subIn hasDictIn clsIn specialIn takesIn mroIn codeIn fnOf excInitIn excOver takerIn)

/-! ## own exceptions with two fields, over ArithmeticError -/
def ei2A (f g : Str) (p1 p2 p3 : Pos) : Arguments := { posonlyargs := [], args := [{ arg := "self", annotation := none, pos := p1 }, { arg := f, annotation := none, pos := p2 }, { arg := g, annotation := none, pos := p3 }], vararg := none, kwonlyargs := [], kw_defaults := [], kwarg := none, defaults := [] }
def ei2B (f g : Str) (q1 q2 q3 q4 q5 q6 q7 q8 : Pos) : List Stmt := [.Assign [.Attribute (.Name "self" q1) f q2] (.Name f q3) q4, .Assign [.Attribute (.Name "self" q5) g q6] (.Name g q7) q8]
def ei2S (f g : Str) : Scope := { kind := .function, names := [(PySem.Str.ofString "self", .local), (f, .local), (g, .local)], isGenerator := false, isCoroutine := false, more := [] }
def EBind2 (f g qual : Str) : Prop := ∀ (kV doc pm : Value) (an : Option Addr) (cdv ct x v u : Value) (p1 p2 p3 q1 q2 q3 q4 q5 q6 q7 q8 : Pos),
  bindArgs (fnOf "__init__" qual (ei2A f g p1 p2 p3) (ei2B f g q1 q2 q3 q4 q5 q6 q7 q8) (ei2S f g) .none kV doc pm an cdv ct) ⟨[x, v, u], []⟩ = pure [(PySem.Str.ofString "self", x), (f, v), (g, u)]
abbrev AEm : List Value := [.type "ArithmeticError", .type "Exception", .type "BaseException", .type "object"]
structure EC2 (K : Frag) (mg : Str → Option Value) (nm f g qual : Str) (C fI : Addr) : Prop where
  n1 : (f == ("self" : Str)) = false
  n2 : (g == ("self" : Str)) = false
  n3 : (g == f) = false
  gC : mg nm = some (.ref C)
  cls : excInitIn K C AEm "ArithmeticError.__new__" = true
  over : excOver K C AEm = true
  sa : findIn K (.ref C) "__setattr__" = some (some (.builtin "object.__setattr__"))
  ga : findIn K (.ref C) "__getattribute__" = some (some (.builtin "BaseException.__getattribute__"))
  gg : findIn K (.ref C) "__getattr__" = some none
  noF : findIn K (.ref C) f = some none
  noG : findIn K (.ref C) g = some none
  tkF : takerIn K C f = some none
  tkG : takerIn K C g = some none
  iC : findIn K (.ref C) "__init__" = some (some (.ref fI))
  tC : typeIn K (.ref fI) = some (.type "function")
  kC : keepIn K (.ref C) = true
  exC : subIn K (.ref C) (.type "BaseException") = some true
  tyC : typeIn K (.ref C) = some (.type "type")
  hdC : hasDictIn K C = true
  bi : EBind2 f g qual
  fn : ∃ (oc : Value) (od : Option Addr) (kV doc pm : Value) (an : Option Addr) (cdv ct : Value) (osl : Array (Option Value)) (p1 p2 p3 q1 q2 q3 q4 q5 q6 q7 q8 : Pos),
    K.lookup fI = some ⟨oc, od, .func (fnOf "__init__" qual (ei2A f g p1 p2 p3) (ei2B f g q1 q2 q3 q4 q5 q6 q7 q8) (ei2S f g) .none kV doc pm an cdv ct), osl⟩ ∧ codeIn K cdv qual = true
def eqb? (a b : Option Bool) : Bool := decide (a = b)
/-- all but the written __init__ -/
def ec2B (K : Frag) (nm f g : Str) : Bool := excInitIn K (He.ga K nm) AEm "ArithmeticError.__new__" && (excOver K (He.ga K nm) AEm && (eqq (findIn K (.ref (He.ga K nm)) "__setattr__") (some (some (.builtin "object.__setattr__")))
  && (eqq (findIn K (.ref (He.ga K nm)) "__getattribute__") (some (some (.builtin "BaseException.__getattribute__"))) && (eqq (findIn K (.ref (He.ga K nm)) "__getattr__") (some none) && (eqq (findIn K (.ref (He.ga K nm)) f) (some none) && (eqq (findIn K (.ref (He.ga K nm)) g) (some none)
  && (eqq (takerIn K (He.ga K nm) f) (some none) && (eqq (takerIn K (He.ga K nm) g) (some none) && (eqq (findIn K (.ref (He.ga K nm)) "__init__") (some (some (.ref (He.ma K (He.ga K nm) "__init__")))) && (eqv? (typeIn K (.ref (He.ma K (He.ga K nm) "__init__"))) (some (.type "function"))
  && (keepIn K (.ref (He.ga K nm)) && (eqb? (subIn K (.ref (He.ga K nm)) (.type "BaseException")) (some true) && (eqv? (typeIn K (.ref (He.ga K nm))) (some (.type "type")) && hasDictIn K (He.ga K nm))))))))))))))
theorem ec2_of {K : Frag} {mg : Str → Option Value} {nm f g qual : Str} {params : Arguments} {body : List Stmt} {scope : Scope} {kws : List (Str × V)} {fd : FuncData} {p1 p2 p3 q1 q2 q3 q4 q5 q6 q7 q8 : Pos} (n1 : (f == ("self" : Str)) = false) (n2 : (g == ("self" : Str)) = false) (n3 : (g == f) = false)
    (hm : mg nm = some (.ref (He.ga K nm))) (h : ec2B K nm f g = true)
    (FD : FunD K "__init__" qual params body scope [] kws (He.ma K (He.ga K nm) "__init__") fd) (e1 : params = ei2A f g p1 p2 p3) (e2 : body = ei2B f g q1 q2 q3 q4 q5 q6 q7 q8) (e3 : scope = ei2S f g)
    (bi : EBind2 f g qual := by intro _ _ _ _ _ _ _ _ _ _ _ _ _ _ _ _ _ _ _ _; first | rfl | with_unfolding_all rfl) : EC2 K mg nm f g qual (He.ga K nm) (He.ma K (He.ga K nm) "__init__") := by
  unfold ec2B at h
  simp only [Bool.and_eq_true] at h
  obtain ⟨a1, a2, a3, a4, a5, a6, a7, a8, a9, a10, a11, a12, a13, a14, a15⟩ := h
  obtain ⟨oc, od, dV, kV, doc, pm, an, cdv, ct, osl, e, lk, hcd, hD, hK⟩ := FD.ex
  have hd : dV = .none := by
    rcases hD with ⟨_, z⟩ | ⟨z, _⟩
    · exact z
    · exact absurd rfl z
  subst e hd e1 e2 e3
  exact ⟨n1, n2, n3, hm, a1, a2, of_decide_eq_true a3, of_decide_eq_true a4, of_decide_eq_true a5, of_decide_eq_true a6, of_decide_eq_true a7, of_decide_eq_true a8, of_decide_eq_true a9, of_decide_eq_true a10, of_decide_eq_true a11, a12, of_decide_eq_true a13, of_decide_eq_true a14, a15, bi,
    oc, od, kV, doc, pm, an, cdv, ct, osl, p1, p2, p3, q1, q2, q3, q4, q5, q6, q7, q8, lk, hcd⟩
/-! ### it is made -/
def two (f g : Str) (v u : Value) : Str → Option Value := fun y => if y = g then some u else if y = f then some v else none
structure EInit2 (h h' : Heap) (x C dx t1 : Addr) (f g : Str) (v u : Value) : Prop where
  keep : ∀ b o, b ≠ x → h.get? b = some o → h'.get? b = some o
  obj : h'.get? x = some { cls := .ref C, dict := some dx, data := .fields #[.ref t1, .none, .none, .none, .bool false, .none] }
  big : h.objs.size ≤ dx
  ne : dx ≠ x
  ns : h'.Ns1 dx (two f g v u)
structure EMade2 (h h' : Heap) (e C d : Addr) (f g : Str) (v u : Value) : Prop where
  keep : ∀ b o, h.get? b = some o → h'.get? b = some o
  new : h.objs.size ≤ e
  obj : ∃ oe vs, h'.get? e = some oe ∧ oe.cls = .ref C ∧ oe.dict = some d ∧ oe.data = .fields vs ∧ vs[1]? = some .none
  big : h.objs.size ≤ d
  ne : d ≠ e
  ns : h'.Ns1 d (two f g v u)
section
open Builtin.ObjectAttr
variable {prog : Program} {w : World} {A : Around} {E : Value → Shared → Prop} {R : Result → Shared → Prop} {s : Shared} {K : Frag} {mg : Str → Option Value} {C fI : Addr} {nm f g qual : Str}
variable {hp : Heap} {gs : Array GenState} {dr : Drawn} {t : Nat} {os : OsState}
/-- the first store: the object gets its dict -/
theorem osaA_new {name : Str} {tk : Tok} {v : Value} {x t0 : Addr} (X : K.In hp) (hx : hp.get? x = some (HandSPX.excO C t0)) (ov : excOver K C AEm = true) (ht : takerIn K C name = some none) (hh : hasDictIn K C = true)
    (hq : ∀ h' tk' dx, (∀ b o, b ≠ x → hp.get? b = some o → h'.get? b = some o) → hp.objs.size ≤ dx → dx ≠ x → h'.get? x = some { cls := .ref C, dict := some dx, data := .fields #[.ref t0, .none, .none, .none, .bool false, .none] } →
      h'.Ns1 dx (fun y => if y = name then some v else none) → R (.ok (.ret .none)) ⟨h', gs, dr, tk', os⟩) :
    codeAny (model prog w) A (.call (.builtin "object.__setattr__") ⟨[.ref x, .str name tk, v], []⟩) R ⟨hp, gs, dr, t, os⟩ := by
  refine PySem.W.osa_openX (s := ⟨hp, gs, dr, t, os⟩) (od := none) PySem.F.store_ArithmeticError X ⟨hx, rfl, rfl, trivial⟩ ov ht fun b => ?_
  obtain ⟨cd, hc, hd⟩ := PySem.W.any_some hh
  have hxs : x ≠ hp.objs.size := Nat.ne_of_lt (Heap.lt_size hx)
  refine wpAny_bind (wpAny_pure (wpAny_bind (PySem.W.instanceDict_exc (s := ⟨hp, gs, dr, t, os⟩) (C := C) (t := t0) (c2 := .none) hx (PySem.W.looks_clsIn X hc) hd ?_)))
  show wpAny _ _ (storeInDict hp.objs.size (.str name tk) name v) _ _ _
  refine HandSPX.store_in_new ?_ fun h' tk' hn' hs => ?_
  · exact ⟨_, #[], _, (Heap.get?_update_ne _ _ _ _ hxs.symm).trans (Heap.get?_push_at rfl rfl), rfl, (fun e he => absurd he (by simp)), fun _ => rfl⟩
  · have hx1 : (hp.push (PySem.W.dictOf [] 0)).get? x = some (HandSPX.excO C t0) := Heap.get?_push_of_some _ hx
    refine hq h' tk' hp.objs.size (fun b o hb ho => ?_) (Nat.le_refl _) hxs.symm ?_ hn'
    · exact (hs.2 b (Nat.ne_of_lt (Heap.lt_size ho))).trans ((Heap.get?_update_ne _ _ _ _ hb).trans (Heap.get?_push_of_some _ ho))
    · exact (hs.2 x hxs).trans (Heap.get?_update_self _ hx1 rfl)
/-- a later one -/
theorem osaA_old {name : Str} {tk : Tok} {v : Value} {x t0 dx : Addr} {m0 : Str → Option Value} {nl : List Str} (X : K.In hp) (hx : hp.get? x = some { cls := .ref C, dict := some dx, data := .fields #[.ref t0, .none, .none, .none, .bool false, .none] }) (hns : hp.Ns1 dx m0) (hw : Within m0 nl) (hz : nl.length ≤ 1000)
    (ov : excOver K C AEm = true) (ht : takerIn K C name = some none) (hh : hasDictIn K C = true)
    (hq : ∀ h' tk', (∀ b o, b ≠ dx → hp.get? b = some o → h'.get? b = some o) → h'.Ns1 dx (fun y => if y = name then some v else m0 y) → R (.ok (.ret .none)) ⟨h', gs, dr, tk', os⟩) :
    codeAny (model prog w) A (.call (.builtin "object.__setattr__") ⟨[.ref x, .str name tk, v], []⟩) R ⟨hp, gs, dr, t, os⟩ := by
  obtain ⟨oD, esD, epD, hoD, hdD, _⟩ := hns.count hw
  refine PySem.W.osa_openX (s := ⟨hp, gs, dr, t, os⟩) (od := some oD) PySem.F.store_ArithmeticError X ⟨hx, rfl, rfl, hoD⟩ ov ht fun b => ?_
  obtain ⟨cd, hc, hd⟩ := PySem.W.any_some hh
  refine wpAny_bind (wpAny_pure (wpAny_bind (wpAny_bind (wpAny_loadPart hx (wpAny_bind ((PySem.W.looks_clsIn X hc).here ?_))))))
  rw [hd]
  refine wpAny_pure (a := some dx) ?_
  exact OEX.store_in_old hns hw hz fun h' tk' hn' hs => hq h' tk' (fun b o hb ho => (hs.2 b hb).trans ho) hn'
theorem bEq_comm {a b : Str} (h : (a == b) = false) : (b == a) = false := by
  rw [beq_eq_false_iff_ne] at h ⊢
  exact fun z => h z.symm
theorem e_init2 (T : EC2 K mg nm f g qual C fI) (hf : (f == ("__debug__" : Str)) = false) (hg : (g == ("__debug__" : Str)) = false) {x t0 : Addr} {v u : Value} (X : K.In s.heap) (lim : s.heap.NoLimit) (hx : s.heap.get? x = some (HandSPX.excO C t0)) (hnx : K.lookup x = none) (room : A.depth < recursionLimit)
    (hq : ∀ h' tk dx, EInit2 s.heap h' x C dx t0 f g v u → R (.ok (.ret .none)) { s with heap := h', toks := tk }) : codeAny (model prog w) A (.call (.ref fI) ⟨[.ref x, v, u], []⟩) R s := by
  obtain ⟨oc, od, kV, doc, pm, an, cdv, ct, osl, p1, p2, p3, q1, q2, q3, q4, q5, q6, q7, q8, ho, hcd⟩ := T.fn
  have fs : (f == PySem.Str.ofString "self") = false := T.n1
  have gs_ : (g == PySem.Str.ofString "self") = false := T.n2
  have gf : (g == f) = false := T.n3
  have sf := bEq_comm fs
  have sg := bEq_comm gs_
  have look : ∀ y, (ei2S f g).names.lookup y = if y == PySem.Str.ofString "self" then some .local else if y == f then some .local else if y == g then some .local else none := fun y => by
    show List.lookup y [(PySem.Str.ofString "self", NameKind.local), (f, .local), (g, .local)] = _
    unfold List.lookup
    cases y == PySem.Str.ofString "self" with
    | true => rfl
    | false =>
      unfold List.lookup
      cases y == f with
      | true => rfl
      | false =>
        unfold List.lookup
        cases y == g <;> rfl
  have lf : (ei2S f g).names.lookup f = some .local := by rw [look, fs]; simp
  have lg : (ei2S f g).names.lookup g = some .local := by rw [look, gs_, gf]; simp
  have ls : (ei2S f g).names.lookup (PySem.Str.ofString "self") = some .local := by rw [look]; simp
  refine Att.call_fn (binds := [(PySem.Str.ofString "self", .ref x), (f, v), (g, u)]) X lim ho hcd room (BindsTo.of_eq (T.bi kV doc pm an cdv ct (.ref x) v u p1 p2 p3 q1 q2 q3 q4 q5 q6 q7 q8)) (by simp [lf, lg, ls]) (fun s₁ IC => ?_) rfl rfl rfl
  obtain ⟨h1, tk1, rfl⟩ := IC.toInCall.same
  have kp : ∀ b o, s.heap.get? b = some o → h1.get? b = some o := IC.toInCall.keep
  have hn := IC.toInCall.ns
  have X1 : K.In h1 := X.keeps kp
  have hx1 := kp _ _ hx
  have nd : [PySem.Str.ofString "self", f, g].Nodup := by
    have a := beq_eq_false_iff_ne.mp sf
    have b := beq_eq_false_iff_ne.mp sg
    have c := beq_eq_false_iff_ne.mp (bEq_comm gf)
    rw [List.nodup_cons, List.nodup_cons]
    refine ⟨fun z => ?_, fun z => ?_, by simp⟩
    · rcases List.mem_cons.mp z with z | z
      · exact a z
      · exact b (List.mem_singleton.mp z)
    · exact c (List.mem_singleton.mp z)
  have z0 : s.heap.objs.size < h1.objs.size := hn.lt
  show wpAny _ _ (execs _ _) _ _ _
  refine wpAny_execs_cons (plainObj_wpAny_Assign_Attribute ?_)
  refine ld_loc (v := v) hn (bindL_get (P := [PySem.Str.ofString "self", f, g]) (vs := [.ref x, v, u]) (i := 1) nd rfl rfl lf) ?_ rfl lf hf
  refine ld_loc (v := .ref x) hn (bindL_get (P := [PySem.Str.ofString "self", f, g]) (vs := [.ref x, v, u]) (i := 0) nd rfl rfl ls) ?_ rfl ls (by decide)
  refine PySem.W.set_plain X1 (ox := HandSPX.excO C t0) (od := none) ⟨hx1, rfl, rfl, trivial⟩ T.sa ?_
  refine osaA_new X1 hx1 T.over T.tkF T.hdC (fun h3 tk3 dx k3 dn dne hx3 hn3 => ?_)
  have xL : s.heap.objs.size ≠ x := Nat.ne_of_gt (Heap.lt_size hx)
  have X3 : K.In h3 := fun a o e => k3 a o (fun z => by rw [z, hnx] at e; cases e) (X1 a o e)
  have hn3' := hn.at fun o e => k3 _ o xL e
  show wpAny _ _ (execs _ _) _ _ _
  refine wpAny_execs_cons (plainObj_wpAny_Assign_Attribute ?_)
  refine ld_loc (v := u) hn3' (bindL_get (P := [PySem.Str.ofString "self", f, g]) (vs := [.ref x, v, u]) (i := 2) nd rfl rfl lg) ?_ rfl lg hg
  refine ld_loc (v := .ref x) hn3' (bindL_get (P := [PySem.Str.ofString "self", f, g]) (vs := [.ref x, v, u]) (i := 0) nd rfl rfl ls) ?_ rfl ls (by decide)
  have wi : Within (fun y => if y = f then some v else none) [f] := fun y hy => by
    by_cases z : y = f
    · rw [z]; exact List.mem_singleton_self f
    · exact absurd (if_neg z) hy
  obtain ⟨oD, esD, epD, hoD, _, _⟩ := hn3.count wi
  refine PySem.W.set_plain X3 (ox := { cls := .ref C, dict := some dx, data := .fields #[.ref t0, .none, .none, .none, .bool false, .none] }) (od := some oD) ⟨hx3, rfl, rfl, hoD⟩ T.sa ?_
  refine osaA_old X3 hx3 hn3 wi (by simp) T.over T.tkG T.hdC (fun h4 tk4 k4 hn4 => ?_)
  show wpAny _ _ (execs _ _) _ _ _
  exact wpAny_execs_nil (hq h4 tk4 dx ⟨fun b o hb e => k4 b o (fun z => by
    have lt := Heap.lt_size (kp b o e)
    rw [z] at lt
    exact Nat.lt_irrefl _ (Nat.lt_of_lt_of_le lt dn)) (k3 b o hb (kp b o e)), k4 x _ dne.symm hx3, Nat.le_of_lt (Nat.lt_of_lt_of_le z0 dn), dne, hn4⟩)
theorem e_made2 (T : EC2 K mg nm f g qual C fI) (hf : (f == ("__debug__" : Str)) = false) (hg : (g == ("__debug__" : Str)) = false) {v u : Value} (X : K.In s.heap) (lim : s.heap.NoLimit) (room : A.depth + 1 < recursionLimit)
    (hq : ∀ h' tk e d, EMade2 s.heap h' e C d f g v u → R (.ok (.ret (.ref e))) { s with heap := h', toks := tk }) : codeAny (model prog w) A (.call (.ref C) ⟨[v, u], []⟩) R s := by
  obtain ⟨hp, g', dr, tk, os⟩ := s
  obtain ⟨nm', N, qn, bs, bm, hdct, sn, sub, ab, col, dd, k0, k1, k2, k3, k5, hC, hbm⟩ := PySem.W.excInit_of X T.cls
  have kp : ∀ b o, hp.get? b = some o → ((hp.push (PySem.W.kdv_tup [v, u])).push (HandSPX.excO C hp.objs.size)).get? b = some o := fun b o e => Heap.get?_push_of_some _ (Heap.get?_push_of_some _ e)
  have got : ((hp.push (PySem.W.kdv_tup [v, u])).push (HandSPX.excO C hp.objs.size)).get? (hp.objs.size + 1) = some (HandSPX.excO C hp.objs.size) := by heap_get
  have notK : K.lookup (hp.objs.size + 1) = none := by
    cases e : K.lookup (hp.objs.size + 1) with
    | none => rfl
    | some o =>
      have z : hp.get? (hp.objs.size + 1) = some o := X _ _ e
      exact absurd (Nat.lt_of_succ_lt (Heap.lt_size z)) (Nat.lt_irrefl _)
  refine HandSPX.call_own PySem.F.excBase_ArithmeticError hbm hC (PySem.W.looks_findIn X T.iC) (fun self => PySem.W.bind_fn X self T.tC) (by rw [sizeLine_eq]; exact (by decide : 2 ≤ 16777216)) ?_
  refine e_init2 (s := ⟨(hp.push (PySem.W.kdv_tup [v, u])).push (HandSPX.excO C hp.objs.size), g', dr, tk, os⟩) T hf hg (X.keeps kp) (lim.keeps kp) got notK ?_ fun h' tk' dx ⟨k', hx, dn, dne, hns⟩ => ?_
  · show A.depth + 1 < recursionLimit
    exact room
  · have old : ∀ b o, hp.get? b = some o → h'.get? b = some o := fun b o e => k' b o (Nat.ne_of_lt (Nat.lt_succ_of_lt (Heap.lt_size e))) (kp b o e)
    have z : hp.objs.size + 1 + 1 ≤ dx := by
      first
        | (simpa only [Heap.size_push] using dn)
        | exact dn
    exact ⟨rfl, hq h' tk' (hp.objs.size + 1) dx ⟨old, Nat.le_succ _, ⟨_, _, hx, rfl, rfl, rfl, rfl⟩, (by show hp.objs.size ≤ dx; omega), dne, hns⟩⟩
end
theorem relO_two {v u : V} {v' u' : Value} {f g : Str} (n : (g == f) = false) (r : RelV v v') (r2 : RelV u u') (y : Str) : RelO (List.lookup y [(f, v), (g, u)]) (two f g v' u' y) := by
  have n' := beq_eq_false_iff_ne.mp n
  unfold two List.lookup
  by_cases hf : y = f
  · have z : (y == f) = true := by simpa using hf
    rw [z, if_neg (fun q => n' (q.symm.trans hf)), if_pos hf]
    exact r
  · have z : (y == f) = false := by simpa using hf
    rw [z, if_neg hf]
    unfold List.lookup
    by_cases hg : y = g
    · have z2 : (y == g) = true := by simpa using hg
      rw [z2, if_pos hg]
      exact r2
    · have z2 : (y == g) = false := by simpa using hg
      rw [z2, if_neg hg]
      trivial
section
variable {X : Cx} {C fI : Addr} {nm f g qual : Str} {Wx : WX} {lk : List Nat} {a b : Expr} {fa fb : FM}
def tMkE2 (f g : Str) (C : Addr) (ta : TA) : St → Hp → XK → Prop := fun σ H Q => ta σ H fun vs H1 => ∃ v u, vs = [v, u] ∧ ∀ d, H1 d = none → Q (.ref C) (some d) (upd H1 d (.xd [(f, v), (g, u)]))
theorem pmk_e2 {ta : TA} {p pos : Pos} {k : Nat} (T : EC2 X.K X.mg nm f g qual C fI) (hf : (f == ("__debug__" : Str)) = false) (hg0 : (g == ("__debug__" : Str)) = false) (hr : Room k X.A) (ha : PA X [a, b] ta) (hg : Gl X nm) (hdn : (nm == ("__debug__" : Str)) = false)
    (he : starEach (a :: [b]) X.env = (false, eval a X.env) :: starEach [b] X.env := by rfl) (hpl : (backTo pos (starEach [b] X.env)).any (·.1) = false := by rfl) : PMk X (.Call (.Name nm p) [a, b] [] pos) (tMkE2 f g C ta) := by
  intro pins s σ H Q I h
  refine wpAny_Call_Name_kw (ld_glob I hg T.gC ?_ hdn)
  refine PySem.W.callWith_K (h₀ := X.base) I.ok.mod.kin T.kC (thn (ha.run pos pins s σ H _ I h) fun us s1 hh => ?_) he hpl
  obtain ⟨vs, H1, I1, r1, v, u, ev, q1⟩ := hh
  subst ev
  refine ⟨I1.kIn, ?_⟩
  cases r1 with
  | cons rv rn =>
    rename_i v' us'
    cases rn with
    | cons ru rn =>
      rename_i u' us'
      cases rn
      show wpAny _ _ (call (.ref C) [v', u']) _ _ _
      have lim := I1.nolimit
      obtain ⟨hp, g', dr, tk, os⟩ := s1
      refine wpAny_call (e_made2 T hf hg0 I1.kIn lim (by have := hr.dp; omega) fun h' tk' e d M => ?_)
      show MkP X pins σ Q (.ref e) ⟨h', g', dr, tk', os⟩
      obtain ⟨oe, fv, hoe, hc, hd, hdat, h1⟩ := M.obj
      have hns := M.ns
      obtain ⟨G', g1, g2⟩ := restrict h' fun b => decide (b ≠ e)
      have gk : ∀ b, b ≠ e → G'.get? b = h'.get? b := fun b hb => g1 b (decide_eq_true hb)
      have ge : G'.get? e = none := g2 e (by simp)
      have old : ∀ b o, hp.get? b = some o → G'.get? b = some o := fun b o q => (gk b (Nat.ne_of_lt (Nat.lt_of_lt_of_le (Heap.lt_size q) M.new))).trans (M.keep b o q)
      have ob : ObjOk X.prog X.w (upd H1 d (.xd [(f, v), (g, u)])) G' d (.xd [(f, v), (g, u)]) := ⟨_, hns.at (fun o q => (gk d M.ne).trans q), fun y => relO_two T.n3 rv ru y⟩
      have J : Inv X pins σ (upd H1 d (.xd [(f, v), (g, u)])) ⟨G', g', dr, tk', os⟩ := I1.laid (t' := tk') old M.big ob
      refine ⟨e, oe, fv, ⟨G', g', dr, tk', os⟩, _, .ref C, some d, rfl, J, fun b o q => ?_, ge, hoe, ⟨hc, hd⟩, hdat, h1, ?_, rfl, I1.bare, raises_own T.exC T.tyC, q1 d (I1.hok.fresh M.big)⟩
      · by_cases hb : b = e
        · have q' : G'.get? b = some o := q
          rw [hb, ge] at q'
          cases q'
        · exact (gk b hb).symm.trans q
      · rw [upd_ne (Ne.symm M.ne)]
        exact I1.hok.fresh M.new
/-- raise Nm(a, b) -/
@[simp] def sRaise2 (nm f g : Str) (fs : FL) : FS := fun e => match fs e with
  | .ok [x, y] e1 => .ex ⟨nm, [(f, x), (g, y)]⟩ e1
  | .ex x e1 => .ex x e1
  | _ => .stuck
theorem sd_raise2 {p pos pos2 : Pos} {k : Nat} {fs : FL} (hc : X.calm = true) (T : EC2 X.K X.mg nm f g qual C fI) (hr : Room k X.A) (tk : Takes X Wx) (ha : PMs X Wx [a, b] fs) (hf : (f == ("__debug__" : Str)) = false := by decide) (hg0 : (g == ("__debug__" : Str)) = false := by decide)
    (hg : Gl X nm := by rfl) (hdn : (nm == ("__debug__" : Str)) = false := by decide)
    (he : starEach (a :: [b]) X.env = (false, eval a X.env) :: starEach [b] X.env := by rfl) (hpl : (backTo pos (starEach [b] X.env)).any (·.1) = false := by rfl) : SD X Wx lk (.Raise (some (.Call (.Name nm p) [a, b] [] pos)) none pos2) (sRaise2 nm f g fs) := by
  obtain ⟨t, pa, ka⟩ := ha.run
  refine SD.of ⟨_, ps_raise hc tk (pmk_e2 T hf hg0 hr pa hg hdn he hpl), fun W H σ e D sr h => ?_⟩
  refine ka W H σ e _ sr ?_
  unfold sRaise2 at h
  revert h
  generalize fs e = o
  intro h
  cases o with
  | stuck => exact h
  | ex x e1 => exact fun c d W' H' s1 x1 r => h c d W' H' σ s1 x1 (fun _ _ => rfl) r
  | ok ds e1 =>
    match ds, h with
    | [x, y], h =>
      intro vs W1 H1 sr1 x1 r
      obtain ⟨v, vs, rfl, r1, u, vs2, rfl, r2, r3⟩ := r
      cases (show vs2 = [] from r3)
      refine ⟨v, u, rfl, fun d hd => ?_⟩
      have gw : Grow X.K W1 H1 W1 (upd H1 d (.xd [(f, v), (g, u)])) := .of sr1.wm (upd_keep hd)
      have fx := (gw.fx sr1)
      exact h (.ref C) (some d) W1 _ σ (gw.sr sr1) (x1.trans fx) (fun _ _ => rfl) ⟨T.gC, .inr ⟨d, _, rfl, upd_same, rfl, v, [u], rfl, Rp.mono (gw.ex sr1.wm) _ r1, u, [], rfl, Rp.mono (gw.ex sr1.wm) _ r2, rfl⟩⟩
    | [], h => exact h.elim
    | [_], h => exact h.elim
    | _ :: _ :: _ :: _, h => exact h.elim
end
/-! ### its fields are read -/
theorem fv_look {W : List Addr} {K : Frag} {H : Hp} {f : Str} {y : D} : ∀ {fs : List (Str × D)} {fv : List (Str × V)}, fv.map (·.1) = fs.map (·.1) → RpL W K H (fs.map (·.2)) (fv.map (·.2)) → fs.lookup f = some y → ∃ w, fv.lookup f = some w ∧ Rp W K H y w
  | [], _, _, _, h => nomatch h
  | (a, x) :: fs, [], h, _, _ => nomatch h
  | (a, x) :: fs, (b, v) :: fv, hn, hr, h => by
    have e : b = a := (List.cons.inj hn).1
    subst e
    obtain ⟨w, r, ew, r1, r2⟩ := hr
    obtain ⟨rfl, rfl⟩ := List.cons.inj ew
    unfold List.lookup at h ⊢
    cases q : f == b with
    | true =>
      rw [q] at h
      cases h
      exact ⟨v, rfl, r1⟩
    | false =>
      rw [q] at h
      exact fv_look (List.cons.inj hn).2 r2 h
/-- e.f -/
@[simp] def xFldN (nm f : Str) : XD → FP := fun x _ => if x.cls = nm then (x.fs.lookup f).map .fz else none
section
variable {X : Cx} {i : Nat}
theorem px_fld2 {nm f0 g0 f qual : Str} {C fI : Addr} {n : Str} {pn pa : Pos} (T : EC2 X.K X.mg nm f0 g0 qual C fI) (hno : findIn X.K (.ref C) f = some none) (hN : X.N[i]? = some n := by rfl) (hv : Vis X.env.scope n := by first | exact Or.inl rfl | exact Or.inr (Or.inl rfl)) (hd : (n == ("__debug__" : Str)) = false := by decide)
    (hcd : (n == ("__classdict__" : Str)) = false := by decide) (hb : attributeBase (.Name n pn) f X.env (eval (.Name n pn) X.env) = eval (.Name n pn) X.env := by rfl) : PX X i (.Attribute (.Name n pn) f pa) (xFldN nm f) := by
  refine ⟨fun a oe cls d pn hz hf => ⟨fun pins s σ H Q I ⟨W, e, x, r, sr, hi, xr, hfx, k⟩ => ?_⟩⟩
  refine attr_of hb (thn ((pe_var (X := X.suite a ((a, oe) :: pn)) hN hv hd hcd).run pins s σ H (fun v H1 => v = .ref a ∧ H1 = H) I ⟨_, hi, rfl, rfl⟩) fun u s1 ⟨v, H1, I1, rv, ev, eH⟩ => ?_)
  subst ev eH
  obtain rfl : u = Value.ref a := rv
  unfold xFldN at hfx
  split at hfx
  rotate_left
  · cases hfx
  rename_i hc
  obtain ⟨y, hy, er⟩ := Option.map_eq_some_iff.mp hfx
  subst er
  obtain ⟨xm, xf⟩ := xr
  rw [hc, T.gC] at xm
  cases xm
  rcases xf with ⟨z, _⟩ | ⟨dd, fv, ed, hdd, hn, rp⟩
  · rw [z] at hy; cases hy
  subst ed
  obtain ⟨w, l, rw1⟩ := fv_look hn rp hy
  obtain ⟨ha, _⟩ := I1.pin (a, oe) (List.mem_append_left _ List.mem_cons_self)
  obtain ⟨vs, hdat⟩ := hf
  have hx : ObjOk X.prog X.w H1 s1.heap dd (.xd fv) := I1.hok dd _ hdd
  obtain ⟨mA, hns, hr⟩ := hx
  obtain ⟨od, ho, hl⟩ := lookIn_ns hns
  obtain ⟨u, hu, ru⟩ := RelO.some_of (v := w) (o := mA f) (by rw [← l]; exact hr f)
  have J : PySem.W.InstAt s1.heap a oe C (some od) := ⟨ha, hz.1, by unfold PySem.W.notCls; rw [hdat] <;> rfl, by rw [hz.2]; exact ho⟩
  exact HandSPX.exc_get I1.kIn J T.ga T.gg T.exC (PySem.W.findObj_own T.hdC hno rfl (by rw [hl, hu])) (handed_of ru) ⟨w, H1, I1.tok _, ru, k w W H1 (.refl sr.wm) rw1⟩
end
end DL

set_option maxHeartbeats 4000000
namespace DL
open PySem PySem.Spec PyProof.Rows L2
open LamX (CodeO TabS TabB lamEnv lamCx LamS)

/-! ## a lambda without parameters, handed to a def that calls it within a try -/
/-- new objects, tables grown: all else stands -/
structure LGrow (H H' : Hp) : Prop where
  keep : ∀ a o, H a = some o → nt o = true → H' a = some o
  dom : ∀ a, H' a = none → H a = none
theorem LGrow.grow {K : PySem.W.Frag} {W : List Addr} {H H' : Hp} (g : LGrow H H') (wm : WM W H) (tb : TBs K H') : Grow K W H W H' where
  keep := g.keep
  dom := g.dom
  tb := fun _ => tb
  sub := fun _ h => h
  new := fun _ h => .inl h
  wm := fun a h => by
    have q := wm a h
    cases z : H a with
    | none => rw [z] at q; exact q.elim
    | some o => rw [g.keep a o z (mut_nt (by rw [← z]; exact q)), ← z]; exact q
theorem nt_code {c : Addr} {q : Str} : nt (CodeO c q) = true := rfl
section
variable {X : Cx} {pins : List (Addr × Obj)} {σ : L2.St} {H : Hp} {s : Shared}
theorem lam_mk {c P : Addr} {q0 : Str} {params : Arguments} {body : Expr} {scope : Scope} {pos : Pos} {E Q : Value → Shared → Prop} (I : Inv X pins σ H s) (tb : TBs X.K H) (it : IsTb X.K c P q0) (hq : X.env.qual = q0 ++ ".<locals>.") (TB : TabB X.base X.mg c P) (hcd : X.env.code = .ref c)
    (dfl : defaultsOf params X.env = ([], [])) (fr : ∀ y ∈ scope.names, y.2 = .free → ∃ c, X.env.cells.lookup y.1 = some c)
    (h : ∀ (f c' : Addr) (pm ctv : Value) (H1 : Hp) (s' : Shared), Inv X pins σ H1 s' → LGrow H H1 → TBs X.K H1 →
      s'.heap.get? f = some (PySem.W.kla_obj "<lambda>" (X.env.qual ++ "<lambda>") params body scope (cloFrom X.env.cells scope.names []) pm c' ctv) → H1 f = none → f ∉ frs X.stack → H1 c' = some (CodeO c' (X.env.qual ++ "<lambda>")) → s.heap.objs.size ≤ f → Q (.ref f) s') :
    wpAny (model X.prog X.w) X.A (eval (.Lambda params body scope pos) X.env) Q E s := by
  obtain ⟨ps, tP, tok, tall⟩ := tb.all c P _ it
  rw [← hq] at tall
  have gotP : s.heap.get? P = some { cls := .none, data := .fields ps } := I.hok P _ tP
  have away : ∀ f, s.heap.objs.size ≤ f → f ∉ frs X.stack := fun f big z => by
    rcases List.mem_cons.mp (I.stkSub _ z) with e | e
    · subst e
      exact absurd I.lt (Nat.not_lt.mpr big)
    · exact I.nofs big e
  refine PySem.W.kla_eval dfl ?_
  cases am : codeAmong pos ps.toList with
  | some cv =>
    obtain ⟨c', rfl, isC⟩ := tall pos cv am
    refine PySem.W.kla_makeFunctionHit (P := P) (c := c) (ps := ps) (mg := X.mg) (closure_ok fr) I.ok.glob (I.mod.glob.keeps I.bk) hcd (TB.code.keeps I.bk) gotP tok am (TB.bm.keeps I.bk) fun ctv h2 t2 old big => ?_
    exact h h2.objs.size c' ((X.mg "__name__").getD .none) ctv H _ (I.kept fun b o e => Heap.get?_push_of_some _ (old b o e)) ⟨fun _ _ e _ => e, fun _ e => e⟩ tb (Heap.get?_push_size _ rfl) (I.hok.fresh big) (away _ big) isC big
  | none =>
    refine PySem.W.kla_makeFunction (P := P) (c := c) (ps := ps) (mg := X.mg) (closure_ok fr) I.ok.glob (I.mod.glob.keeps I.bk) hcd (TB.code.keeps I.bk) gotP tok am TB.gP (TB.bm.keeps I.bk) fun c' ctv h2 t2 old cbig clt isrec newP => ?_
    obtain ⟨c2, oc, vs, t, ec, gotC, dC, nC⟩ := isrec
    cases ec
    have big : s.heap.objs.size ≤ h2.objs.size := Nat.le_trans cbig (Nat.le_of_lt clt)
    have free : H c' = none := I.hok.fresh cbig
    have nPc : P ≠ c' := ne_of_none tP free
    obtain ⟨H1, eH1⟩ : ∃ H1, H1 = upd (upd H P (.tbl (ps ++ #[rawInt pos.line, rawInt pos.col, .ref c']))) c' (CodeO c' (X.env.qual ++ "<lambda>")) := ⟨_, rfl⟩
    have atC : H1 c' = some (CodeO c' (X.env.qual ++ "<lambda>")) := by rw [eH1, upd_same]
    have atP : H1 P = some (.tbl (ps ++ #[rawInt pos.line, rawInt pos.col, .ref c'])) := by rw [eH1, upd_ne nPc, upd_same]
    have else_ : ∀ b, b ≠ P → b ≠ c' → H1 b = H b := fun b n1 n2 => by rw [eH1, upd_ne n2, upd_ne n1]
    have lg : LGrow H H1 := by
      refine ⟨fun a o e n => ?_, fun a e => ?_⟩
      · rw [else_ a (fun z => ?_) (ne_of_none e free)]
        · exact e
        · rw [z, tP] at e
          cases e
          cases n
      · by_cases z : a = c'
        · rw [z]; exact free
        · by_cases z2 : a = P
          · rw [z2, atP] at e
            cases e
          · rw [else_ a z2 z] at e
            exact e
    have lst : (ps ++ #[rawInt pos.line, rawInt pos.col, .ref c']).toList = ps.toList ++ [rawInt pos.line, rawInt pos.col, .ref c'] := by simp
    have tb1 : TBs X.K H1 := by
      refine ⟨fun d P2 q2 k => ?_, tb.uq⟩
      by_cases z : P2 = P
      · subst z
        have eq := tb.uq _ _ _ _ _ k it
        subst eq
        rw [← hq]
        refine ⟨_, atP, by rw [lst]; exact PySem.TriplesOk_snoc _ _ _ _ tok, fun p' cv hcv => ?_⟩
        rw [lst] at hcv
        rcases LamX.among_app _ tok hcv with w | w
        · obtain ⟨c0, e1, e2⟩ := tall p' cv w
          exact ⟨c0, e1, lg.keep _ _ e2 nt_code⟩
        · exact ⟨c', w, atC⟩
      · obtain ⟨qs, k1, k2, k3⟩ := tb.all d P2 q2 k
        refine ⟨qs, by rw [else_ P2 z (ne_of_none k1 free)]; exact k1, k2, fun p' cv hcv => ?_⟩
        obtain ⟨c0, e1, e2⟩ := k3 p' cv hcv
        exact ⟨c0, e1, lg.keep _ _ e2 nt_code⟩
    have I1 := LamX.inv_table (t' := t2) (c := c') (q := X.env.qual ++ "<lambda>") (more := #[rawInt pos.line, rawInt pos.col, .ref c']) (h' := h2.push (PySem.W.kla_obj "<lambda>" (X.env.qual ++ "<lambda>") params body scope (cloFrom X.env.cells scope.names []) ((X.mg "__name__").getD .none) c' ctv)) I tP
      (fun b o n e => Heap.get?_push_of_some _ (old b o n e)) (Heap.get?_push_of_some _ newP) cbig ⟨oc, vs, t, Heap.get?_push_of_some _ gotC, dC, nC⟩
    rw [← eH1] at I1
    refine h h2.objs.size c' ((X.mg "__name__").getD .none) ctv H1 _ I1 lg tb1 (Heap.get?_push_size _ rfl) ?_ (away _ big) atC big
    rw [else_ _ (Nat.ne_of_gt (Nat.lt_of_lt_of_le (Heap.lt_size gotP) big)) (Nat.ne_of_gt clt)]
    exact I.hok.fresh big
end
end DL

set_option maxHeartbeats 4000000
namespace DL
open PySem PySem.Spec PyProof.Rows L2
open LamX (CodeO TabS TabB lamEnv lamCx LamS)

/-! ## the lambda is called in the def that got it -/
section
variable {X : Cx} {pins : List (Addr × Obj)} {σ : L2.St} {H : Hp} {s : Shared}
theorem pe_callL {CXg : CXT} {Eg E : XK} {Ng : List Str} {qg a : Str} {sg scope : Scope} {g f c' : Addr} {cdg pm ctv : Value} {params : Arguments} {body : Expr} {k i : Nat} {pn : List (Addr × Obj)} {xe : Value → Shared → Prop} {W : WX} {tb : TE} {p1 p2 : Pos}
    (I : Inv X pins σ H s) (L : LamS X.env.scope scope) (isF : s.heap.get? f = some (PySem.W.kla_obj "<lambda>" (X.env.qual ++ "<lambda>") params body scope (cloFrom X.env.cells scope.names []) pm c' ctv)) (newF : H f = none) (offF : f ∉ frs X.stack)
    (noArg : bindArgs (PySem.W.kla_fn "<lambda>" (X.env.qual ++ "<lambda>") params body scope (cloFrom X.env.cells scope.names []) pm (.ref c') ctv) ⟨[], []⟩ = pure [])
    (tk : Takes ((cxOf CXg X.prog X.w X.K X.mg X.base Ng qg sg g cdg X.A X.stack s H Eg).tr pn xe) W) (out : ∀ cls d σ' H', E cls d H' → W cls d σ' H') (room : Room (k + 1) (X.A.deeper (envOfC qg sg s.heap.objs.size g cdg))) (gd : X.A.guards = some [])
    (hb : ∀ (A : Around) (outer : List Env) (s0 : Shared) (H0 : Hp), Room k (A.deeper (lamEnv X scope s0.heap.objs.size f c')) → A.guards = some [] → PE (lamCx X A outer s0 H0 E scope f c') body tb)
    (iN : Ng[i]? = some a) (vis : Vis sg a) (nd : (a == ("__debug__" : Str)) = false := by decide) (nc : (a == ("__classdict__" : Str)) = false := by decide) :
    PE ((cxOf CXg X.prog X.w X.K X.mg X.base Ng qg sg g cdg X.A X.stack s H Eg).tr pn xe) (.Call (.Name a p1) [] [] p2)
      (fun σZ HZ Q => σZ[i]? = some (some (.ref f)) ∧ HZ c' = some (CodeO c' (X.env.qual ++ "<lambda>")) ∧ tb σ HZ Q) := by
  refine ⟨fun pinsZ sZ σZ HZ Q IZ ⟨atI_, isC, ht⟩ => ?_⟩
  have rd := (pe_var (pos := p1) (i := i) iN vis nd nc).run pinsZ sZ σZ HZ (fun v H1 => v = .ref f ∧ H1 = HZ) IZ ⟨.ref f, atI_, rfl, rfl⟩
  refine wpAny_Call_Name_kw (thn rd fun u s1 ⟨v, H1, J, rv, ev, eH⟩ => ?_)
  subst ev eH
  obtain rfl : u = Value.ref f := rv
  have keepF := J.base.keep f _ isF newF offF (fun z => nomatch (show f ∈ ([] : List Addr) from z))
  refine PySem.W.callWith_F0 ⟨_, _, _, _, keepF⟩ ?_
  have since : Un (frs X.stack) [] H H1 s.heap s1.heap := J.base
  obtain ⟨⟨oc, vs, t, gotC, dC, nC⟩, _, _⟩ := J.hok c' _ isC
  have go : codeAny (model X.prog X.w) (X.A.deeper (envOfC qg sg s.heap.objs.size g cdg)) (.call (.ref f) { pos := [], kw := [] }) (CR (L2.CX X.prog X.w) (envOfC qg sg s.heap.objs.size g cdg :: X.stack) X.prog X.w H1 s1 Q E) s1 := by
    refine PySem.W.kla_callFunE room.depth keepF rfl L.co L.gen rfl ⟨c', oc, vs, t, rfl, gotC, dC, nC⟩ ?_
    rw [noArg]
    refine wpAny_pure (wpAny_newFunctionEnv (fun y hy => (L.own y hy).2) (fun y hy => absurd hy (by simp)) (fun h2 hns new => ⟨J.nolimit.fresh _ new, ?_⟩) L.kind)
    have kp : ∀ b o, s1.heap.get? b = some o → h2.get? b = some o := fun b o e => new.extBut b o (Nat.ne_of_lt (Heap.lt_size e)) (Heap.get?_push_of_some _ e)
    have J2 : Inv (lamCx X (X.A.deeper (envOfC qg sg s.heap.objs.size g cdg)) (envOfC qg sg s.heap.objs.size g cdg :: X.stack) s1 H1 E scope f c') [] σ H1 { s1 with heap := h2, toks := s1.toks + ([] : List (Str × Value)).length } :=
      LamX.lam_start2 I L J.env0 room.hd since hns kp
    refine PySem.W.kla_codeExpr (wpAny_mono ((hb _ _ s1 H1 (room.deeper _) gd).run [] _ _ H1 Q J2 ht) (fun v s' hq => ?_) (fun e s' hq => hq))
    obtain ⟨v', H', J3, rv', q⟩ := hq
    exact ⟨v', H', J3.os, J3.bare, J3.base, J3.hok, rv', q⟩
  refine wpAny_call (codeAny_mono go fun r s' hq => ?_)
  match r, hq with
    | .ok (.ret u), hq => exact J.after hq
    | .ok .next, hq => exact False.elim hq
    | .ok .brk, hq => exact False.elim hq
    | .ok .cont, hq => exact False.elim hq
    | .error e, hq => exact (passes_call tk out) pinsZ σZ H1 s1 e s' J hq
end
end DL

set_option maxHeartbeats 4000000
namespace DL
open PySem PySem.Spec PyProof.Rows L2
open LamX (CodeO TabS TabB lamEnv lamCx LamS)

/-! ## what a def hears of a lambda: its value, or what the error tells -/
/-- the text of the def that hears -/
def hdB (cls f1 f2 : Str) (j0 : Nat) (a1 a2 a3 b1 b2 b3 b4 b5 c1 c2 c3 c4 c5 c6 c7 c8 c9 d1 d2 : Pos) : List Stmt :=
  [.Assign [.Name "told" a1] (.Constant .none j0 a2) a3,
   .Try [.Assign [.Name "told" b1] (.Call (.Name "call" b2) [] [] b3) b4] [.ExceptHandler (some (.Name cls c1)) (some "e") [.Assign [.Name "told" c2] (.List [.Attribute (.Name "e" c3) f1 c4, .Attribute (.Name "e" c5) f2 c6] c7) c8] c9] [] [] b5,
   .Return (some (.Name "told" d1)) d2]
@[simp] def mHeard (nm f1 f2 : Str) (fb : FM) : FM := fun e => match fb e with
  | .stuck => .stuck
  | .ok s e1 => .ok (.d s.view) e1
  | .ex x e1 => if x.cls = nm then (match x.fs.lookup f1, x.fs.lookup f2 with
    | some a, some b => .ok (.d (.lst [a, b])) e1
    | _, _ => .stuck) else .stuck
theorem SR.blank {K : PySem.W.Frag} {W : List Addr} {H : Hp} (tb : TBs K H) (wm : WM W H) (σ : St) : SR W K H σ (List.replicate σ.length none) where
  tb := tb
  wm := wm
  len := by rw [List.length_replicate]
  sl := fun i s h => by
    rw [List.getElem?_replicate] at h
    split at h <;> cases h
  one := fun i j s t a h1 _ _ _ _ _ => by
    rw [List.getElem?_replicate] at h1
    split at h1 <;> cases h1
section
variable {X : Cx} {Wx : WX}
theorem pm_heard {d : He.DefD} {nm f1 f2 qual x q0 : Str} {C fI : Addr} {c P : Addr} {fb : FM} {k j0 : Nat} {params : Arguments} {body : Expr} {scope : Scope} {a1 a2 a3 b1 b2 b3 b4 b5 c1 c2 c3 c4 c5 c6 c7 c8 c9 d1 d2 p lpos pos : Pos}
    (hm : X.mg d.name = some (.ref (He.fAd X.K d.at_))) (FD : ∃ fd, FunD X.K d.name d.qual d.params d.body d.scope (d.dvs X.K) (d.kws X.K) (He.fAd X.K d.at_) fd) (hdf : d.dfl = []) (hx : d.name = x) (hb : BindsA d ["call"])
    (hB : d.body = hdB nm f1 f2 j0 a1 a2 a3 b1 b2 b3 b4 b5 c1 c2 c3 c4 c5 c6 c7 c8 c9 d1 d2) (SC : FnScope ["call", "told", "e"] ["call"] d.scope) (T : EC2 X.K X.mg nm f1 f2 qual C fI) (hme : PySem.W.exmOne X.K (.ref C) (.ref C) = some true) (BT : BaseT X.K X.mg X.base)
    (hcode : X.env.code = .ref c) (it : IsTb X.K c P q0) (hr : Room (k + 2) X.A) (gd : X.A.guards = some []) (L : LamS X.env.scope scope)
    (hbody : ∀ (A : Around) (outer : List Env) (s : Shared) (H : Hp) (E : XK) (f c' : Addr), Room k (A.deeper (lamEnv X scope s.heap.objs.size f c')) → A.guards = some [] → PM (lamCx X A outer s H E scope f c') (fun cls d _ H' => E cls d H') body fb)
    (noArg : ∀ (q : Str) (cl : List (Str × Addr)) (pm cv ctv : Value), bindArgs (PySem.W.kla_fn "<lambda>" q params body scope cl pm cv ctv) ⟨[], []⟩ = pure [] := by intro _ _ _ _ _; rfl) (dfl : defaultsOf params X.env = ([], []) := by rfl)
    (hq : X.env.qual = q0 ++ ".<locals>." := by rfl) (hg : Gl X x := by rfl) (hdb : (x == ("__debug__" : Str)) = false := by decide) (s1 : d.scope.names.lookup ("call" : Str) = some .local := by rfl) (s2 : d.scope.names.lookup ("told" : Str) = some .local := by rfl) (s3 : d.scope.names.lookup ("e" : Str) = some .local := by rfl)
    (s4 : d.scope.names.lookup nm = some .globalImplicit := by rfl) (hdn : (nm == ("__debug__" : Str)) = false := by decide) : PM X Wx (.Call (.Name x p) [.Lambda params body scope lpos] [] pos) (mHeard nm f1 f2 fb) := by
  subst hx
  refine ⟨⟨fun pins s σ H Q I ⟨W, e, sr, h⟩ => ?_⟩⟩
  obtain ⟨fd, FD⟩ := FD
  obtain ⟨oc, od, dV, kV, doc, pm0, an, cdv, ct, osl, ef, lk, hcg, hD, _⟩ := FD.ex
  have hd0 : dV = .none := by
    rcases hD with ⟨_, z⟩ | ⟨z, _⟩
    · exact z
    · exact absurd (show d.dvs X.K = [] by unfold He.DefD.dvs; rw [hdf]; rfl) z
  subst hd0 ef
  refine wpAny_Call_Name_kw (ld_glob I hg hm ?_ hdb)
  refine PySem.W.callWith_K (h₀ := X.base) I.ok.mod.kin FD.kp ?_ (by rfl) (by rfl)
  show wpAny _ _ (spliced ((false, eval (.Lambda params body scope lpos) X.env) :: backTo pos (starEach [] X.env))) _ _ s
  refine Calls.spliced_cons (lam_mk I sr.tb it hq (BT c P it.1) hcode dfl (L.has I.ok) fun f c' pm ctv H1 s' I1 lg tb1 isF newF offF isC _ => ?_)
  refine Calls.spliced_nil ⟨I1.kIn, ?_⟩
  have g1 := lg.grow sr.wm tb1
  have sr1 := g1.sr sr
  have h1 := OutK.go (g1.fx sr) h
  have nd : (["call", "told", "e"] : List Str).Nodup := by decide
  have rc : codeAny (model X.prog X.w) X.A (.call (.ref (He.fAd X.K d.at_)) ⟨[.ref f], []⟩) (CR C8.CX0 X.stack X.prog X.w H1 s' Q C8.E0) s' := by
    refine LamX.run_ofS (N := ["call", "told", "e"]) (ps := ["call"]) (us := [.ref f]) (vs := [.ref f]) lk hcg SC hr I1.env0 (.of_eq (hb kV doc pm0 an cdv ct [.ref f] rfl)) (.cons rfl .nil) rfl fun hr' => ?_
    rw [hB]
    have gl : Gl (cxOf C8.CX0 X.prog X.w X.K X.mg X.base ["call", "told", "e"] d.qual d.scope (He.fAd X.K d.at_) cdv X.A X.stack s' H1 C8.E0) nm := s4
    refine ⟨_, pss_cons (ps_set (i := 1) nd rfl (.inl s2) pe_non (by rfl) (.inl rfl)) (pss_cons (ps_try_as (c := .ref C) (i := 2) (n := "e") (Wout := fun _ _ _ _ => False)
      (tb := fun W0 Z σZ HZ => ∃ Ech : XK, (∀ cls dd σ' H', Ech cls dd H' → W0 cls dd σ' H') ∧ σZ[0]? = some (some (.ref f)) ∧ HZ c' = some (CodeO c' (X.env.qual ++ "<lambda>")) ∧ tM X.K X.mg (fun cls dd _ H' => Ech cls dd H') fb σ HZ (fun v H' => Z.nx (σZ.set 1 (some v)) H'))
      (ts := fun a cls dd Z σZ HZ => σZ.length = 3 → ∃ (W' : List Addr) (z : XD) (ya yb : D), TBs X.K HZ ∧ WM W' HZ ∧ σZ[2]? = some (some (.ref a)) ∧ XR X.mg W' X.K HZ z cls dd ∧ z.cls = nm ∧ z.fs.lookup f1 = some ya ∧ z.fs.lookup f2 = some yb ∧
        ∀ v W2 H2, Grow X.K W' HZ W2 H2 → RVok W2 X.K HZ H2 (.fr [ya, yb]) v → Z.nx (σZ.set 1 (some v)) H2)
      rfl rfl nd rfl s3 ⟨gl, hdn, .inl T.gC⟩ LamX.takes0 (fun W0 pn xe tk _ => ?_) (fun a oe cls dd pn hz hf => ?_)) (pss_one (ps_ret (pe_var (i := 1) rfl (.inl s2))))), ?_⟩
    · refine pss_one ⟨fun pins2 sZ σZ HZ Z IZ ⟨Ech, out, z1, z2, z3⟩ => ?_⟩
      have act := pe_callL (i := 0) (E := Ech) (p1 := b2) (p2 := b3) (tb := tM X.K X.mg (fun cls dd _ H' => Ech cls dd H') fb) I1 L isF newF offF (noArg _ _ _ _ _) tk out hr' gd (fun A outer s0 H0 r g => (hbody A outer s0 H0 Ech f c' r g).pe) (a := "call") rfl (.inl s1)
      exact (ps_set (i := 1) nd rfl (.inl s2) act (by rfl) (.inl rfl)).run pins2 sZ σZ HZ Z IZ ⟨z1, z2, z3⟩
    · refine pss_one ⟨fun pins2 sZ σZ HZ Z IZ hh => ?_⟩
      obtain ⟨W', z, ya, yb, tbz, wmz, z2, xr, zc, l1, l2, k⟩ := hh IZ.len
      have px := (px_lst (pos := c7) (pxs_cons (px_fld2 (X := cxOf C8.CX0 X.prog X.w X.K X.mg X.base ["call", "told", "e"] d.qual d.scope (He.fAd X.K d.at_) cdv X.A X.stack s' H1 C8.E0) (i := 2) (pn := c3) (pa := c4) T T.noF rfl (.inl s3)) (pxs_cons (px_fld2 (i := 2) (pn := c5) (pa := c6) T T.noG rfl (.inl s3)) pxs_nil))).run a oe cls dd pn hz hf
      refine (ps_set (i := 1) nd rfl (.inl s2) px (by rfl) (.inl rfl)).run pins2 sZ σZ HZ Z IZ ?_
      refine ⟨W', List.replicate σZ.length none, z, .fr [ya, yb], SR.blank tbz wmz σZ, z2, xr, ?_, k⟩
      have z0 : 2 ≤ SZ := by unfold SZ; decide
      simp [zc, l1, l2, z0]
    · refine ⟨fun cls dd H' => ∃ (W' : List Addr) (z : XD) (ya yb : D), TBs X.K H' ∧ WM W' H' ∧ XR X.mg W' X.K H' z cls dd ∧ z.cls = nm ∧ z.fs.lookup f1 = some ya ∧ z.fs.lookup f2 = some yb ∧
        ∀ v W2 H2, Grow X.K W' H' W2 H2 → RVok W2 X.K H' H2 (.fr [ya, yb]) v → Q v H2, fun cls dd σ' H' hE => ?_, rfl, isC, W, e, sr1, ?_⟩
      · obtain ⟨W', z, ya, yb, tbz, wmz, xr, zc, l1, l2, k⟩ := hE
        have ec : cls = .ref C := by
          have := xr.1
          rw [zc, T.gC] at this
          exact (Option.some.inj this).symm
        refine ⟨true, by rw [ec]; exact hme, fun _ a ha hlen => ⟨W', z, ya, yb, tbz, wmz, ?_, xr, zc, l1, l2, fun v W2 H2 gg kk => ⟨v, ?_, k v W2 H2 gg kk⟩⟩, fun w => nomatch w⟩
        · rw [List.length_set] at hlen
          exact List.getElem?_set_self (by omega)
        · rw [List.length_set] at hlen
          rw [List.getElem?_set_ne (by decide)]
          exact List.getElem?_set_self (by rw [List.length_set]; omega)
      · unfold mHeard at h1
        revert h1
        generalize fb e = o
        intro h1
        cases o with
        | stuck => exact h1.elim
        | ok s0 e1 => exact DK.out sr1.wm fun v W' H' s3 y r => ⟨v, rfl, h1 v W' H' s3 y r fun z => nomatch z⟩
        | ex z e1 =>
          intro cls dd W' H' s3 y xr
          have h1 : OutK X.K X.mg Wx W H1 σ e Q (if z.cls = nm then (match z.fs.lookup f1, z.fs.lookup f2 with
            | some a, some b => .ok (.d (.lst [a, b])) e1
            | _, _ => .stuck) else .stuck) := h1
          split at h1
          rotate_left
          · exact h1.elim
          rename_i zc
          split at h1
          rotate_left
          · exact h1.elim
          rename_i ya yb l1 l2
          refine ⟨W', z, ya, yb, s3.tb, s3.wm, xr, zc, l1, l2, ?_⟩
          have d2 : OutK X.K X.mg Wx W' H' σ e1 Q (.ok (.lst [ya, yb]) e1) := DK.out s3.wm fun v W2 H2 s4 y2 r => h1 v W2 H2 s4 (y.trans y2) r fun z => nomatch z
          exact OutK.rv s3 (r := .fr [ya, yb]) d2
  refine wpAny_call (codeAny_mono rc fun r s2 hq => ?_)
  match r, hq with
  | .ok (.ret u), hq => exact I1.after hq
  | .ok .next, hq => exact False.elim hq
  | .ok .brk, hq => exact False.elim hq
  | .ok .cont, hq => exact False.elim hq
  | .error e, hq => exact (show False from hq).elim
end
end DL

set_option maxHeartbeats 4000000
namespace DL
open PySem PySem.Spec PyProof.Rows L2

/-! ## defs that make lambdas: their code object with its table -/
def lamK (K : PySem.W.Frag) (f : Addr) : Bool := match K.lookup f with
  | some ⟨_, _, .func fd, _⟩ => (match fd.code with
    | .ref c => (tabPairs K).any fun p => decide (p.1 = c)
    | _ => false)
  | _ => false
theorem lamK_ok {K : PySem.W.Frag} {f : Addr} {oc : Value} {od : Option Addr} {fd : FuncData} {osl : Array (Option Value)} (h : lamK K f = true) (lk : K.lookup f = some ⟨oc, od, .func fd, osl⟩) : ∃ c P, fd.code = .ref c ∧ PySem.W.codeHdIn K c P = true := by
  unfold lamK at h
  rw [lk] at h
  dsimp only at h
  split at h
  · rename_i c hc
    obtain ⟨p, hp, e⟩ := List.any_eq_true.mp h
    have e := of_decide_eq_true e
    subst e
    exact ⟨p.1, p.2, hc, tabPairs_of hp⟩
  · cases h
theorem cal_ofL {P0 : Program} {w : World} {K : PySem.W.Frag} {mg : Str → Option Value} {base : Heap} {d : He.DefD} {N ps : List Str} {k : Nat} {lk : List Nat} {fb : FS} (hm : mg d.name = some (.ref (He.fAd K d.at_)))
    (FD : ∃ fd, FunD K d.name d.qual d.params d.body d.scope (d.dvs K) (d.kws K) (He.fAd K d.at_) fd) (hl : lamK K (He.fAd K d.at_) = true) (hdf : d.dfl = []) (SC : FnScope N ps d.scope)
    (hb : ∀ (c P : Addr), IsTb K c P d.qual → ∀ (A : Around) (outer : List Env) (s : Shared) (H : Hp) (E : XK), Room k (A.deeper (envOfC d.qual d.scope s.heap.objs.size (He.fAd K d.at_) (.ref c))) → A.guards = some [] →
      SDs (cxOf (CX P0 w) P0 w K mg base N d.qual d.scope (He.fAd K d.at_) (.ref c) A outer s H E) (fun c d _ H' => E c d H') lk d.body fb) : Cal P0 w K mg base (k + 1) d ps (fnF N.length lk fb) := by
  obtain ⟨fd, FD⟩ := FD
  obtain ⟨oc, od, dV, kV, doc, pm, an, cdv, ct, osl, e, look, code, hD, hK⟩ := FD.ex
  have hd : dV = .none := by
    rcases hD with ⟨_, z⟩ | ⟨z, _⟩
    · exact z
    · exact absurd (show d.dvs K = [] by unfold He.DefD.dvs; rw [hdf]; rfl) z
  subst hd
  obtain ⟨c, P, hc, hP⟩ := lamK_ok hl look
  have ec : cdv = .ref c := by rw [← hc, e] <;> rfl
  subst ec
  have it : IsTb K c P d.qual := ⟨hP, code⟩
  have FF : Fd P0 w K mg base (k + 1) (He.fAd K d.at_) fd ps (fnF N.length lk fb) := by
    refine ⟨fun A outer s H args us vs ss W Q E room gd env bind rel hlen r0 out => ?_⟩
    subst e
    have inK : K.In s.heap := env.mod.kin.keeps fun b o q => (env.bs b o q).1
    have noL : s.heap.NoLimit := env.mod.nolimit.keeps fun b o q => (env.bs b o q).1
    have kinds : ∀ y ∈ ps.zip us, d.scope.names.lookup y.1 = some .local ∨ (d.scope.names.lookup y.1 = some .cell ∧ ((cellsFrom (s.heap.objs.size + 1) d.scope.names []).lookup y.1).isSome = true) := by
      intro y hy
      cases SC.par y.1 (List.of_mem_zip hy).1 with
      | inl q => exact .inl q
      | inr q => exact .inr ⟨q, PySem.W.cellsFrom_some _ _ _ (.inl q)⟩
    unfold fnF at out
    split at out
    rotate_left
    · exact out.elim
    rename_i hlk
    refine codeAny_call_function (by have := room.dp; omega) (inK _ _ look) rfl SC.co SC.gen rfl (PySem.W.codeRec_of inK code) (bind _ _ _ _ ?_)
    refine wpAny_newFunctionEnv_cells SC.kind kinds fun env1 he s1 ic => ?_
    subst he
    refine ⟨noL.keeps ic.toInCall.keep, codeAny_func ?_⟩
    have B := hb c P it A outer s H E (room.deeper _) gd
    have hss : ss.length = vs.length := by have := r0.len; rw [List.length_map, List.length_map] at this; exact this
    have I0 : Inv (cxOf (CX P0 w) P0 w K mg base N d.qual d.scope (He.fAd K d.at_) (.ref c) A outer s H E) [] (L2.start N vs) H s1 := inv_start SC room.hd env hlen rel ic
    have pre : tS K mg (fun c d _ H' => E c d H') lk fb { nx := fun _ H' => Q .non H', rt := Q } (L2.start N vs) H := by
      refine ⟨W, enter N.length ss, ?_, ?_⟩
      · unfold L2.start enter
        rw [hss]
        exact r0.ext _
      · have := fin_ok (n := N.length - ss.length) r0 hlk out
        unfold L2.start
        rw [← hss]
        exact this
    refine wpAny_mono (B.ps.run [] s1 (L2.start N vs) H _ I0 pre) (fun fl s2 end_ => ?_) fun e s2 z => z
    cases fl with
    | next =>
      obtain ⟨σ2, H2, J, q⟩ := end_
      exact ⟨.non, H2, J.os, J.bare, J.base, J.hok, rfl, q⟩
    | ret u =>
      obtain ⟨v, σ2, H2, J, rv, q⟩ := end_
      exact ⟨v, H2, J.os, J.bare, J.base, J.hok, rv, q⟩
    | brk => exact end_.elim fun _ z => z.elim fun _ z => z.2.elim
    | cont => exact end_.elim fun _ z => z.elim fun _ z => z.2.elim
  exact ⟨⟨_, fd, hm, FD.kp, FF, ⟨kV, doc, pm, an, .ref c, ct, e⟩, oc, od, osl, look⟩⟩
end DL

set_option maxHeartbeats 4000000
namespace DL
open PySem PySem.Spec PyProof.Rows L2

/-! ## calls by keywords that may raise -/
@[simp] def callX (F : List S → Out) (rs : List RV) (e : En) : Out := match F (rs.map fun r => S.d r.view) with
  | .ok s _ => if (rs.all fun r => !r.lent) = true ∨ s.flat = true then rvO (some s.rv) e else .stuck
  | .ex z _ => if (rs.all fun r => !r.lent) = true then .ex z e else .stuck
  | .stuck => .stuck
theorem callX_ok {W W1 : List Addr} {K : PySem.W.Frag} {mg : Str → Option Value} {H H1 : Hp} {σ : St} {e : En} {F : List S → Out} {rs : List RV} {vs : List V} {Q : VK} {n : Nat} {Wx : WX} (sr : SR W K H σ e) (g1 : Grow K W H W1 H1) (k1 : RVs W1 K H H1 rs vs) (h : OutK K mg Wx W H σ e Q (callX F rs e)) (hn : vs.length = n) : spF K mg n F (fun c d H' => Wx c d σ H') vs H1 Q := by
  have wm := sr.wm
  have tb := sr.tb
  cases q : F (rs.map fun r => S.d r.view) with
  | stuck =>
    unfold callX at h
    rw [q] at h
    exact h.elim
  | ok s o =>
    unfold callX at h
    rw [q] at h
    have h : OutK K mg Wx W H σ e Q (if (rs.all fun r => !r.lent) = true ∨ s.flat = true then rvO (some s.rv) e else .stuck) := h
    split at h
    rotate_left
    · exact h.elim
    rename_i hc
    have hf : callP F rs = some s.rv := by
      unfold callP
      rw [q]
      exact if_pos hc
    exact callP_ok tb wm g1 k1 hf (OutK.rv sr h) hn
  | ex z o =>
    unfold callX at h
    rw [q] at h
    have h : OutK K mg Wx W H σ e Q (if (rs.all fun r => !r.lent) = true then .ex z e else .stuck) := h
    split at h
    rotate_left
    · exact h.elim
    rename_i hl
    refine ⟨hn, W1.filter (fun a => decide (a ∉ held rs vs)), (rs.map RV.view).map S.d, ?_⟩
    have sb : ∀ a ∈ W1.filter (fun a => decide (a ∉ held rs vs)), a ∈ W1 := fun a h => (List.mem_filter.mp h).1
    have nh : ∀ a ∈ held rs vs, a ∉ W1.filter (fun a => decide (a ∉ held rs vs)) := fun a h z => by
      have := (List.mem_filter.mp z).2
      simp at this
      exact this h
    have fa := frozen_args sb g1.wm k1 nh
    have wm0 : WM (W1.filter fun a => decide (a ∉ held rs vs)) H1 := fun a h => g1.wm a (sb a h)
    refine ⟨frame_of (g1.tb tb) wm0 fa, ?_⟩
    have em : (rs.map fun r => S.d r.view) = (rs.map RV.view).map S.d := by rw [List.map_map]; rfl
    rw [em] at q
    rw [q]
    intro cls d W' H' sr' x xr
    have kp : ∀ a o, H a = some o → nt o = true → H' a = some o := fun a o h m => x.keep a o (g1.keep a o h m) no_own m
    have kd : ∀ a, H' a = none → H a = none := fun a h => g1.dom a (x.dom a h)
    have sub : ∀ a ∈ W, a ∈ W' := fun a ha => by
      refine (x.tmp a (List.mem_filter.mpr ⟨g1.sub a ha, ?_⟩) no_own).1
      simp
      exact fun z => isSome_of_mut (wm a ha) (held_in k1 hl a z)
    have g : Grow K W H W H' := Grow.base (W' := W) ⟨kp, kd, fun _ => sr'.tb, fun _ h => h, fun _ h => .inl h, fun a h => by
      have q := wm a h
      cases z : H a with
      | none => rw [z] at q; exact q.elim
      | some o => rw [kp a o z (mut_nt (by rw [← z]; exact q)), ← z]; exact q⟩ wm
    refine h cls d W H' (g.sr sr) (g.fx sr) ⟨xr.1, ?_⟩
    rcases xr.2 with z | ⟨dd, fv, e1, e2, e3, e4⟩
    · exact .inl z
    · exact .inr ⟨dd, fv, e1, e2, e3, RpL.weak sub sr'.wm e4⟩
section
variable {X : Cx} {Wx : WX} {k : Nat} {d : He.DefD} {ps ks : List Str} {F : List S → Out} {x : Str} {p pos : Pos} {fk : FA} {kws : List Keyword}
@[simp] def mFdK (F : List S → Out) (g : {α : Type} → List α → List α → List α) (n : Nat) (fk : FA) : FM := fun e => match fk e with
  | none => .stuck
  | some qs => if (g [] qs).length = n then callX F (g [] qs) e else .stuck
theorem pm_fdK0 {g : {α : Type} → List α → List α → List α} (c : Cal X.prog X.w X.K X.mg X.base k d ps F) (hx : d.name = x) (hb : BindsK d ps ks g) (gv : GVals g) (gr : GRel g) (hr : Room k X.A) (hgd : X.A.guards = some []) (tk : Takes X Wx) (hw : PKs X kws fk) (hg : Gl X x := by rfl)
    (hall : (backToKw pos (keywordEach kws X.env)).all (·.1.isSome) = true := by rfl) (hks : (backToKw pos (keywordEach kws X.env)).filterMap (·.1) = ks := by rfl)
    (hdb : (x == ("__debug__" : Str)) = false := by decide) (hpl : ((backTo pos (starEach [] X.env)).any (·.1) || (backToKw pos (keywordEach kws X.env)).any (·.1.isNone)) = false := by rfl) :
    PM X Wx (.Call (.Name x p) [] kws pos) (mFdK F g ps.length fk) := by
  refine PM.of ⟨_, pe_fdK0 c hx hb gv hr hgd tk hw.pk hg hall hks hdb hpl, fun W H σ e Q sr h => ?_⟩
  unfold mFdK at h
  revert h
  generalize er : fk e = o
  intro h
  cases o with
  | none => exact h.elim
  | some qs =>
    have h : OutK X.K X.mg Wx W H σ e Q (if (g [] qs).length = ps.length then callX F (g [] qs) e else .stuck) := h
    split at h
    rotate_left
    · exact h.elim
    rename_i hl
    show tA X.K fk σ H _
    refine ⟨W, e, qs, sr, er, fun zs W1 H1 g1 k1 => ?_⟩
    have k2 := gr.rv (rs := []) (vs := []) (W := W1) (K := X.K) (H := H) (H' := H1) rfl k1
    exact callX_ok sr g1 k2 h (by rw [← k2.len]; exact hl)
end
end DL

set_option maxHeartbeats 0
namespace G76
open PySem PySem.Spec PyProof.Rows L2 DL
/-! ## the text -/
def topS (i : Nat) : Stmt := PySem.Challenge.pw_wordhandfuls_k76_whole_powers_and_least.main.body.getD i (.Pass ⟨0, 0, 0, 0⟩)
def d_is_integer : He.DefD := ⟨("is_integer", none), "is_integer", "is_integer", defArgs (topS 10), defBody (topS 10), defScope (topS 10), [], []⟩
def d_want_at_most : He.DefD := ⟨("want_at_most", none), "want_at_most", "want_at_most", defArgs (topS 13), defBody (topS 13), defScope (topS 13), [], []⟩
def d_is_reduced : He.DefD := ⟨("is_reduced", none), "is_reduced", "is_reduced", defArgs (topS 21), defBody (topS 21), defScope (topS 21), [], []⟩
def d_letters_of : He.DefD := ⟨("letters_of", none), "letters_of", "letters_of", defArgs (topS 25), defBody (topS 25), defScope (topS 25), [], []⟩
def d_reduced_of : He.DefD := ⟨("reduced_of", none), "reduced_of", "reduced_of", defArgs (topS 26), defBody (topS 26), defScope (topS 26), [], []⟩
def d_undone_of : He.DefD := ⟨("undone_of", none), "undone_of", "undone_of", defArgs (topS 27), defBody (topS 27), defScope (topS 27), [], []⟩
def d_many_words : He.DefD := ⟨("many_words", none), "many_words", "many_words", defArgs (topS 29), defBody (topS 29), defScope (topS 29), [], []⟩
def d_letters_as_images : He.DefD := ⟨("letters_as_images", none), "letters_as_images", "letters_as_images", defArgs (topS 38), defBody (topS 38), defScope (topS 38), [], []⟩
def d__law_pot : He.DefD := ⟨("_law_pot", none), "_law_pot", "_law_pot", defArgs (topS 50), defBody (topS 50), defScope (topS 50), [], []⟩
def d__law_draw : He.DefD := ⟨("_law_draw", none), "_law_draw", "_law_draw", defArgs (topS 51), defBody (topS 51), defScope (topS 51), [], []⟩
def d__law_reduced : He.DefD := ⟨("_law_reduced", none), "_law_reduced", "_law_reduced", defArgs (topS 53), defBody (topS 53), defScope (topS 53), [], []⟩
def d__law_undone : He.DefD := ⟨("_law_undone", none), "_law_undone", "_law_undone", defArgs (topS 54), defBody (topS 54), defScope (topS 54), [], []⟩
def d__law_letters : He.DefD := ⟨("_law_letters", none), "_law_letters", "_law_letters", defArgs (topS 55), defBody (topS 55), defScope (topS 55), [], []⟩
def d__law_heard : He.DefD := ⟨("_law_heard", none), "_law_heard", "_law_heard", defArgs (topS 61), defBody (topS 61), defScope (topS 61), [], []⟩
def d__law_common : He.DefD := ⟨("_law_common", none), "_law_common", "_law_common", defArgs (topS 65), defBody (topS 65), defScope (topS 65), [], []⟩
def d_is_count : He.DefD := ⟨("is_count", none), "is_count", "is_count", defArgs (topS 11), defBody (topS 11), defScope (topS 11), [], []⟩
def d_is_letter : He.DefD := ⟨("is_letter", none), "is_letter", "is_letter", defArgs (topS 19), defBody (topS 19), defScope (topS 19), [], []⟩
def d_want_rank : He.DefD := ⟨("want_rank", none), "want_rank", "want_rank", defArgs (topS 23), defBody (topS 23), defScope (topS 23), [], []⟩
def d_want_told : He.DefD := ⟨("want_told", none), "want_told", "want_told", defArgs (topS 24), defBody (topS 24), defScope (topS 24), [], []⟩
def d_put_together : He.DefD := ⟨("put_together", none), "put_together", "put_together", defArgs (topS 28), defBody (topS 28), defScope (topS 28), [], []⟩
def d_words_from : He.DefD := ⟨("words_from", none), "words_from", "words_from", defArgs (topS 30), defBody (topS 30), defScope (topS 30), [], []⟩
def d__law_pick : He.DefD := ⟨("_law_pick", none), "_law_pick", "_law_pick", defArgs (topS 52), defBody (topS 52), defScope (topS 52), [], []⟩
def d__law_exchange : He.DefD := ⟨("_law_exchange", none), "_law_exchange", "_law_exchange", defArgs (topS 59), defBody (topS 59), defScope (topS 59), [], []⟩
def d__law_image : He.DefD := ⟨("_law_image", none), "_law_image", "_law_image", defArgs (topS 60), defBody (topS 60), defScope (topS 60), [], []⟩
def d__law_letters_only : He.DefD := ⟨("_law_letters_only", none), "_law_letters_only", "_law_letters_only", defArgs (topS 64), defBody (topS 64), defScope (topS 64), [], []⟩
def d__law_rings : He.DefD := ⟨("_law_rings", none), "_law_rings", "_law_rings", defArgs (topS 66), defBody (topS 66), defScope (topS 66), [], []⟩
def d_want_many : He.DefD := ⟨("want_many", none), "want_many", "want_many", defArgs (topS 12), defBody (topS 12), defScope (topS 12), [.int 0], []⟩
def d_is_row : He.DefD := ⟨("is_row", none), "is_row", "is_row", defArgs (topS 20), defBody (topS 20), defScope (topS 20), [], []⟩
def d_image_of : He.DefD := ⟨("image_of", none), "image_of", "image_of", defArgs (topS 37), defBody (topS 37), defScope (topS 37), [], []⟩
def d_fits_images : He.DefD := ⟨("fits_images", none), "fits_images", "fits_images", defArgs (topS 43), defBody (topS 43), defScope (topS 43), [], []⟩
def d__law_word : He.DefD := ⟨("_law_word", none), "_law_word", "_law_word", defArgs (topS 56), defBody (topS 56), defScope (topS 56), [], []⟩
def d__law_powers : He.DefD := ⟨("_law_powers", none), "_law_powers", "_law_powers", defArgs (topS 62), defBody (topS 62), defScope (topS 62), [], []⟩
def d__law_least : He.DefD := ⟨("_law_least", none), "_law_least", "_law_least", defArgs (topS 63), defBody (topS 63), defScope (topS 63), [], []⟩
def d_is_word : He.DefD := ⟨("is_word", none), "is_word", "is_word", defArgs (topS 22), defBody (topS 22), defScope (topS 22), [], []⟩
def d_first_words : He.DefD := ⟨("first_words", none), "first_words", "first_words", defArgs (topS 31), defBody (topS 31), defScope (topS 31), [], []⟩
def d_behind_of : He.DefD := ⟨("behind_of", none), "behind_of", "behind_of", defArgs (topS 39), defBody (topS 39), defScope (topS 39), [], []⟩
def d_kept_words : He.DefD := ⟨("kept_words", none), "kept_words", "kept_words", defArgs (topS 44), defBody (topS 44), defScope (topS 44), [], []⟩
def d__law_images : He.DefD := ⟨("_law_images", none), "_law_images", "_law_images", defArgs (topS 58), defBody (topS 58), defScope (topS 58), [], []⟩
def d_is_images_value : He.DefD := ⟨("is_images_value", none), "is_images_value", "is_images_value", defArgs (topS 35), defBody (topS 35), defScope (topS 35), [], []⟩
def d_want_images : He.DefD := ⟨("want_images", none), "want_images", "want_images", defArgs (topS 36), defBody (topS 36), defScope (topS 36), [], []⟩
def d_want_own_rank : He.DefD := ⟨("want_own_rank", none), "want_own_rank", "want_own_rank", defArgs (topS 45), defBody (topS 45), defScope (topS 45), [], []⟩
def d_images_power : He.DefD := ⟨("images_power", none), "images_power", "images_power", defArgs (topS 46), defBody (topS 46), defScope (topS 46), [], []⟩
def d_least_turn : He.DefD := ⟨("least_turn", none), "least_turn", "least_turn", defArgs (topS 47), defBody (topS 47), defScope (topS 47), [], []⟩
def d_words_left : He.DefD := ⟨("words_left", none), "words_left", "words_left", defArgs (topS 48), defBody (topS 48), defScope (topS 48), [], []⟩
def d__law_right : He.DefD := ⟨("_law_right", none), "_law_right", "_law_right", defArgs (topS 67), defBody (topS 67), defScope (topS 67), [], []⟩
def d_law : He.DefD := ⟨("law", none), "law", "law", defArgs (topS 68), defBody (topS 68), defScope (topS 68), [], []⟩
def x_TooMany : Stmt := (cBody (topS 8)).getD 0 (.Pass ⟨0, 0, 0, 0⟩)
def d_TooMany_init : He.DefD := ⟨("TooMany", some "__init__"), "__init__", "TooMany.__init__", defArgs x_TooMany, defBody x_TooMany, defScope x_TooMany, [], []⟩
def fnl_0 : List He.DefD := [d_is_integer, d_want_at_most, d_is_reduced, d_letters_of, d_reduced_of, d_undone_of, d_many_words, d_letters_as_images, d__law_pot, d__law_draw, d__law_reduced, d__law_undone, d__law_letters, d__law_heard, d__law_common, d_is_count, d_is_letter, d_want_rank, d_want_told, d_put_together]
def fnl_1 : List He.DefD := [d_words_from, d__law_pick, d__law_exchange, d__law_image, d__law_letters_only, d__law_rings, d_want_many, d_is_row, d_image_of, d_fits_images, d__law_word, d__law_powers, d__law_least, d_is_word, d_first_words, d_behind_of, d_kept_words, d__law_images, d_is_images_value, d_want_images]
def fnl_2 : List He.DefD := [d_want_own_rank, d_images_power, d_least_turn, d_words_left, d__law_right, d_law, d_TooMany_init]
def fnl : List He.DefD := fnl_0 ++ fnl_1 ++ fnl_2
def fal_0 : List He.Fa := [.glo "is_integer", .glo "want_at_most", .glo "is_reduced", .glo "letters_of", .glo "reduced_of", .glo "undone_of", .glo "many_words", .glo "letters_as_images", .glo "_law_pot", .glo "_law_draw", .glo "_law_reduced", .glo "_law_undone", .glo "_law_letters", .glo "_law_heard", .glo "_law_common", .glo "is_count", .glo "is_letter", .glo "want_rank", .glo "want_told", .glo "put_together"]
def fal_1 : List He.Fa := [.glo "words_from", .glo "_law_pick", .glo "_law_exchange", .glo "_law_image", .glo "_law_letters_only", .glo "_law_rings", .glo "want_many", .glo "is_row", .glo "image_of", .glo "fits_images", .glo "_law_word", .glo "_law_powers", .glo "_law_least", .glo "is_word", .glo "first_words", .glo "behind_of", .glo "kept_words", .glo "_law_images", .glo "is_images_value", .glo "want_images"]
def fal_2 : List He.Fa := [.glo "want_own_rank", .glo "images_power", .glo "least_turn", .glo "words_left", .glo "_law_right", .glo "law", .glo "TooMany", .free "abs", .free "all", .free "bool", .free "divmod", .free "int", .free "isinstance", .free "len", .free "list", .free "max", .free "min", .free "range", .free "repr", .free "str"]
def fal_3 : List He.Fa := [.free "sum", .free "tuple", .free "zip", .str "IMAGES" "images", .int "MOST_LETTERS" 48, .int "MOST_LISTED_drawnback" 400, .int "MOST_LISTED_words" 400, .int "MOST_POWER" 24, .int "MOST_RANK" 4, .int "MOST_ROW" 240, .int "MOST_WORD" 60]
def fal : List He.Fa := fal_0 ++ fal_1 ++ fal_2 ++ fal_3
def loose_0 : List PySem.Str := ["HandfulError", "StateError", "LimitError", "InvalidRank", "InvalidMany", "InvalidImages", "UnlikeRanks", "TooMany", "is_integer", "is_count", "want_many", "want_at_most", "MOST_RANK", "MOST_ROW", "MOST_WORD", "MOST_LISTED_words", "is_letter", "is_row", "is_reduced", "is_word"]
def loose_1 : List PySem.Str := ["want_rank", "want_told", "letters_of", "reduced_of", "undone_of", "put_together", "many_words", "words_from", "first_words", "IMAGES", "MOST_LETTERS", "is_images_value", "want_images", "image_of", "letters_as_images", "behind_of", "MOST_POWER", "MOST_LISTED_drawnback", "fits_images", "kept_words"]
def loose_2 : List PySem.Str := ["want_own_rank", "images_power", "least_turn", "words_left", "_law_pot", "_law_draw", "_law_pick", "_law_reduced", "_law_undone", "_law_letters", "_law_word", "_law_words", "_law_images", "_law_exchange", "_law_image", "_law_heard", "_law_powers", "_law_least", "_law_letters_only", "_law_common"]
def loose_3 : List PySem.Str := ["_law_rings", "_law_right"]
def loose : List PySem.Str := loose_0 ++ loose_1 ++ loose_2 ++ loose_3
def chk (K : PySem.W.Frag) : Bool := (ec2B K "TooMany" "what" "limit") && (exmB K "TooMany" "TooMany" true) && (lamK K (He.fAd K d__law_right.at_))
abbrev R : PySem.W.OpenRow := PySem.W.OpenLaw.row PySem.Challenge.rw_wordhandfuls_k76_whole_powers_and_least
abbrev hk : PySem.W.Hook := hookX 4 fal fnl chk
def ob (s : PySem.W.SharedT) : He.AlD × Bool := obX 4 fal fnl chk (HandSHeadRun.getT s)
theorem ob_eq (s : PySem.W.SharedT) : ob s = hk.obs s.abs := obX_eq (HandSHeadRun.getT_eq s)

theorem run (w : World) : HandSHeadRun.RunEq R (PySem.W.view R.prog [68]) hk ob 8000 loose w := by
  intro os
  kernel_rfl
end G76

set_option maxHeartbeats 4000000
namespace DL
open PySem PySem.Spec PyProof.Rows L2

/-! ## list(range(..)) -/
section
variable {X : Cx} {a b : Expr} {fa fb : FP} {p p2 pos pos2 : Pos}
theorem rp_range {W : List Addr} {K : PySem.W.Frag} {H : Hp} (i j : Int) : RpL W K H (rangeD i (j - i).toNat) (rgV i j) := by
  unfold rangeD rgV
  generalize List.range (j - i).toNat = l
  induction l with
  | nil => rfl
  | cons k l ih => exact ⟨_, _, rfl, rfl, ih⟩
theorem rgOk_of {i j : Int} (hi : i62 i = true) (hj : i62 j = true) (hz : j - i ≤ 1000000) : RgOk i j := by
  obtain ⟨a1, a2⟩ := i62_ok hi
  obtain ⟨b1, b2⟩ := i62_ok hj
  exact ⟨by omega, by omega, by omega, by omega, by omega⟩
theorem pp_lr2 (hl : X.mg "list" = none) (hm : X.mg "range" = none) (hc : X.calm = true) (ha : PP X a fa) (hb : PP X b fb) (hg : Gl X "list" := by rfl) (hg2 : Gl X "range" := by rfl) (n1 : starEach [a, b] X.env = (false, eval a X.env) :: starEach [b] X.env := by rfl) (n3 : starEach [b] X.env = (false, eval b X.env) :: starEach [] X.env := by rfl)
    (hp : (backTo pos2 (starEach [b] X.env)).any (·.1) = false := by rfl)
    (n2 : starEach [.Call (.Name "range" p2) [a, b] [] pos2] X.env = (false, eval (.Call (.Name "range" p2) [a, b] [] pos2) X.env) :: starEach [] X.env := by rfl) : PP X (.Call (.Name "list" p) [.Call (.Name "range" p2) [a, b] [] pos2] [] pos) (pLr2 fa fb) := by
  obtain ⟨t, pa, ka⟩ := ha.run
  obtain ⟨u, pb, kb⟩ := hb.run
  refine PP.of ⟨_, pe_listRg hc hg hl (prg_2 hg2 hm pa pb n1 n3 hp) n2, fun W H σ e Q r sr hf kq => ?_⟩
  obtain ⟨r1, e1, hf⟩ := Option.bind_eq_some_iff.mp hf
  obtain ⟨r2, e2, hf⟩ := Option.bind_eq_some_iff.mp hf
  split at hf
  · rename_i i j hh
    split at hf
    · rename_i hz
      cases hf
      refine ka W H σ e _ (.fz (.int i)) sr e1 fun v W1 H1 g1 k1 => ?_
      cases (show v = .int i from k1)
      refine kb W1 H1 σ e _ (.fz (.int j)) (g1.sr sr) e2 fun v W2 H2 g2 k2 => ?_
      cases (show v = .int j from k2)
      refine ⟨i, j, rfl, rfl, rgOk_of hz.1 hz.2.1 hz.2.2, fun q hq => ?_⟩
      have g0 := (g1.trans g2).base sr.wm
      exact KQ.fr (Q := Q) g0.wm (fun v W' H' g3 k3 => kq v W' H' (g0.trans g3) (k3.back fun a h => g0.fresh h)) (rp_range (W := W) i j) q hq
    · cases hf
  · cases hf
end
end DL

set_option maxHeartbeats 4000000
namespace DL
open PySem PySem.Spec PyProof.Rows L2

/-! ## a if t else b with effects in t; for, [..] over a range that is told with effects; len(set(xs)) -/
section
variable {X : Cx} {Wx : WX} {lk : List Nat} {a b c : Expr} {fa fb fc : FM} {sts : List Stmt} {p p2 pos pos2 : Pos}
@[simp] def mIfM (fc fa fb : FM) : FM := fun e => match fc e with
  | .ok (.d (.bl q)) e1 => if q = true then fa e1 else fb e1
  | .ex x e1 => .ex x e1
  | _ => .stuck
theorem pm_ifM (hc : TM X Wx c fc) (ha : PM X Wx a fa) (hb : PM X Wx b fb) : PM X Wx (.IfExp c a b pos) (mIfM fc fa fb) := by
  obtain ⟨t, p, kc⟩ := hc.run
  obtain ⟨ua, pa, ka⟩ := ha.run
  obtain ⟨ub, pb, kb⟩ := hb.run
  refine PM.of ⟨_, pe_ifExp p pa pb, fun W H σ e Q sr h => ?_⟩
  refine kc W H σ e _ sr ?_
  unfold mIfM at h
  revert h
  generalize fc e = o
  intro h
  cases o with
  | stuck => exact h
  | ex x e1 => exact h
  | ok s e1 =>
    cases s with
    | lst xs => exact h.elim
    | d y =>
      cases y with
      | bl q =>
        refine ⟨q, rfl, fun W' H' sr' x' => ?_⟩
        have h' := OutK.go x' h
        cases q with
        | true => exact ka W' H' σ e1 Q sr' h'
        | false => exact kb W' H' σ e1 Q sr' h'
      | _ => exact h.elim
/-- for x in range(e), e has effects -/
@[simp] def sForR (fa : FM) (bind : FG) (fb : FS) : FS := fun e => (fa e).st fun s e1 => match s.view with
  | .int j => if i62 j = true then forL bind fb (rangeD 0 j.toNat) e1 else .stuck
  | _ => .stuck
/-- [.. for x in range(e)], e has effects -/
@[simp] def mLcR (vs : List Nat) (fa : FM) (bind : FG) (ft : FT) (fe : FM) : FM := fun e => (fa e).bind fun d e1 => match d with
  | .int j => if i62 j = true then mLc vs (fun _ => some (rangeD 0 j.toNat, true)) bind ft fe e1 else .stuck
  | _ => .stuck
theorem pm_lcR {elt tg : Expr} {ifs : List Expr} {scope : Scope} {own : List (Str × Nat)} {bind : FG} {ft : FT} {fe : FM} (hm : X.mg "range" = none) (hc : X.calm = true) (hN : X.N.Nodup) (ha : PM X Wx a fa) (ok : BlkOk X.N X.env.scope scope own)
    (hg : ∀ (s : Shared) (H : Hp) (C : Addr) (cl : List (Str × Addr)) (fp : List Addr), GP (X.blk s H scope (compEnvC scope cl C X.env) fp) tg (own.map (·.2)) bind)
    (ht : ∀ (s : Shared) (H : Hp) (C : Addr) (cl : List (Str × Addr)) (fp : List Addr), TPs (X.blk s H scope (compEnvC scope cl C X.env) fp) ifs ft)
    (he : ∀ (s : Shared) (H : Hp) (C : Addr) (cl : List (Str × Addr)) (fp : List Addr), PM (X.blk s H scope (compEnvC scope cl C X.env) fp) noW elt fe)
    (hgl : Gl X "range" := by rfl) (hs1 : starEach [a] X.env = [(false, eval a X.env)] := by rfl)
    (hs : ∀ x, foldedSetIterable (.Call (.Name "range" p) [a] [] pos2) X.env x = pure x := by intro _; rfl) : PM X Wx (.ListComp elt [⟨tg, .Call (.Name "range" p) [a] [] pos2, ifs, 0⟩] scope pos) (mLcR (own.map (·.2)) fa bind ft fe) := by
  refine PM.of ⟨_, pe_lc (g := tG tg X.K (own.map (·.2)) bind) (tt := tT X.K ft) (te := tM X.K X.mg noW fe) hc hN (pi_range1 hgl hm (pa_cons ha.pe pa_nil hs1) hs1) ok (fun s H C cl fp => (hg s H C cl fp).pg) (fun s H C cl fp => (ht s H C cl fp).pts) (fun s H C cl fp => (he s H C cl fp).pe) hs, fun W H σ e Q sr h => ?_⟩
  refine ⟨W, e, sr, DK.bind sr.wm h fun d v e1 W1 H1 sr1 x1 r h1 => ?_⟩
  cases d with
  | int j =>
    cases (show v = .int j from r)
    have h2 : OutK X.K X.mg Wx W1 H1 σ e1 Q (if i62 j = true then mLc (own.map (·.2)) (fun _ => some (rangeD 0 j.toNat, true)) bind ft fe e1 else .stuck) := h1
    by_cases h62 : i62 j = true
    · rw [if_pos h62] at h2
      obtain ⟨W2, e2, ds, bb, sr2, hf, k⟩ := lm_fin (tg := tg) sr1 h2
      cases hf
      exact ⟨j, rfl, (i62_ok h62).1, (i62_ok h62).2, k (Itr 0 j.toNat) W2 H1 (.refl sr2.wm) fun _ _ _ => itAt_range 0 _⟩
    · rw [if_neg h62] at h2
      exact h2.elim
  | _ => exact h1.elim
/-- how many unlike whole numbers there are -/
def unlikeN (ns : List Int) : Nat := (firstMet (fun i => ns.getD i 0) ns.length).length
@[simp] def pLenSet (fa : FP) : FP := fun e => (fa e).bind fun r => match r.view with
  | .lst xs => (ints? xs).bind fun ns => if ns.length ≤ 1000 then some (.fz (.int (unlikeN ns : Nat))) else none
  | _ => none
/-! max of a list -/
def maxI (ns : List Int) : Int := ns.tail.foldl max (ns.headD 0)
theorem foldl_max (ns : List Int) : ∀ a : Int, (∀ y ∈ ns, y ≤ ns.foldl max a) ∧ a ≤ ns.foldl max a ∧ (ns.foldl max a = a ∨ ns.foldl max a ∈ ns) := by
  induction ns with
  | nil => exact fun a => ⟨fun _ h => (nomatch h), Int.le_refl _, .inl rfl⟩
  | cons b r ih =>
    intro a
    obtain ⟨h1, h2, h3⟩ := ih (max a b)
    rw [List.foldl_cons]
    refine ⟨fun y hy => ?_, by omega, ?_⟩
    · rcases List.mem_cons.mp hy with rfl | hy
      · omega
      · exact h1 y hy
    · rcases h3 with h3 | h3
      · rw [h3]
        rcases (by omega : max a b = a ∨ max a b = b) with e | e
        · exact .inl e
        · exact .inr (by rw [e]; exact List.mem_cons_self)
      · exact .inr (List.mem_cons_of_mem _ h3)
theorem maxI_ok {ns : List Int} (h : 0 < ns.length) : maxI ns ∈ ns ∧ ∀ y ∈ ns, y ≤ maxI ns := by
  cases ns with
  | nil => cases h
  | cons b r =>
    obtain ⟨h1, h2, h3⟩ := foldl_max r b
    refine ⟨?_, fun y hy => ?_⟩
    · rcases h3 with h3 | h3
      · exact (show r.foldl max b ∈ b :: r by rw [h3]; exact List.mem_cons_self)
      · exact List.mem_cons_of_mem _ h3
    · rcases List.mem_cons.mp hy with rfl | hy
      · exact h2
      · exact h1 y hy
@[simp] def gMaxL : List D → Option RV
  | [.lst xs] => (ints? xs).bind fun ns => if 0 < ns.length then some (.fz (.int (maxI ns))) else none
  | _ => none
theorem c_maxL (hc : X.calm = true) : Ca X (.builtin "max") gMaxL := by
  refine ⟨_, cr_max hc, fun W H xs ds r Q wm hx hg k => ?_⟩
  unfold gMaxL at hg
  split at hg
  · obtain ⟨ns, e, hg⟩ := Option.bind_eq_some_iff.mp hg
    split at hg
    · rename_i hz
      cases hg
      obtain ⟨v, rfl, a, vs, rfl, h1, r1⟩ := hx.one
      refine ⟨a, ns, rfl, .of (by rw [h1, ints_ok r1 e]), hz, fun m hm hy => ?_⟩
      have q := maxI_ok hz
      rw [show m = maxI ns from Int.le_antisymm (q.2 m hm) (hy _ q.1)]
      exact k.fz wm rfl
    · cases hg
  · cases hg
end
end DL

set_option maxHeartbeats 4000000
namespace DL
open PySem PySem.Spec PyProof.Rows L2
/-! # a, b, c = x, y, z with effects, all frozen -/
def put3 (i j l : Nat) : List AR → FS := fun as e => match as with
  | [.fz x, .fz y, .fz z] => if i < e.length ∧ j < e.length ∧ l < e.length then .nx (((e.set i (some (.d x))).set j (some (.d y))).set l (some (.d z))) else .stuck
  | _ => .stuck
@[simp] def sPar3 (i j l : Nat) (fs : FAR) : FS := fun e => (fs e).st (put3 i j l)
theorem put3_ok (i j l : Nat) (as : List AR) (e : En) : put3 i j l as e = .stuck ∨ ∃ x y z, as = [.fz x, .fz y, .fz z] ∧ (i < e.length ∧ j < e.length ∧ l < e.length) ∧ put3 i j l as e = .nx (((e.set i (some (.d x))).set j (some (.d y))).set l (some (.d z))) := by
  by_cases h : ∃ x y z, as = [.fz x, .fz y, .fz z]
  · obtain ⟨x, y, z, rfl⟩ := h
    by_cases hc : i < e.length ∧ j < e.length ∧ l < e.length
    · exact .inr ⟨x, y, z, rfl, hc, if_pos hc⟩
    · exact .inl (if_neg hc)
  · refine .inl ?_
    unfold put3
    split
    · rename_i x y z
      exact absurd ⟨x, y, z, rfl⟩ h
    · rfl
section
variable {X : Cx} {Wx : WX} {lk : List Nat} {a b c : Expr} {pos : Pos}
theorem sd_par3 (i j l : Nat) {x y z : Str} {px py pz pt : Pos} {kt k2 : Nat} {pt2 : Pos} {fs : FAR} (hc : X.calm = true) (ha : ARJ X Wx [a, b, c] fs) (hN : X.N.Nodup)
    (hw : swappedStores [.Tuple [.Name x px, .Name y py, .Name z pz] kt pt] (.Tuple [a, b, c] k2 pt2) X.env = pure (some [x, y, z]))
    (hli : i ∉ lk := by decide) (hlj : j ∉ lk := by decide) (hll : l ∉ lk := by decide) (hi : X.N[i]? = some x := by rfl) (hj : X.N[j]? = some y := by rfl) (hl : X.N[l]? = some z := by rfl) (hij : i ≠ j := by decide) (hil : i ≠ l := by decide) (hjl : j ≠ l := by decide)
    (hx : X.env.scope.names.lookup x = some .local := by rfl) (hy : X.env.scope.names.lookup y = some .local := by rfl) (hz : X.env.scope.names.lookup z = some .local := by rfl)
    (hs : swapsWithSole [.Tuple [.Name x px, .Name y py, .Name z pz] kt pt] (.Tuple [a, b, c] k2 pt2) pos.line X.env = pure false := by rfl) :
    SD X Wx lk (.Assign [.Tuple [.Name x px, .Name y py, .Name z pz] kt pt] (.Tuple [a, b, c] k2 pt2) pos) (sPar3 i j l fs) := by
  obtain ⟨t, p, k⟩ := ha.run
  refine SD.of ⟨_, ps_par3 hc hN hi hj hl hij hil hjl hx hy hz p hw hs, fun W H σ e D sr h => k W H σ e _ sr ?_⟩
  unfold sPar3 at h
  revert h
  generalize fs e = o
  intro h
  cases o with
  | stuck => exact h
  | ex z e1 => exact fun c d W' H' sr' x' r => h c d W' H' σ sr' x' (fun _ _ => rfl) r
  | ok as e1 =>
    intro vs W1 H1 sr1 x1 ar
    have h : FlK X.K X.mg Wx lk W H σ e D (put3 i j l as e1) := h
    rcases put3_ok i j l as e1 with q | ⟨d1, d2, d3, rfl, hz, q⟩
    · rw [q] at h
      exact h.elim
    rw [q] at h
    obtain ⟨v, us, rfl, ar1, v', us', rfl, ar2, v'', us'', rfl, ar3, en⟩ := ar
    cases (show us'' = [] from en)
    obtain ⟨r1, _⟩ := ar1.rs (s := .d d1) rfl
    obtain ⟨r2, _⟩ := ar2.rs (s := .d d2) rfl
    obtain ⟨r3, _⟩ := ar3.rs (s := .d d3) rfl
    obtain ⟨s2, x2⟩ := store_own sr.wm sr1 x1 r1 (fun z => nomatch z) hz.1
    obtain ⟨s3, x3⟩ := store_own (i := j) sr.wm s2 x2 r2 (fun z => nomatch z) (by rw [List.length_set]; exact hz.2.1)
    obtain ⟨s4, x4⟩ := store_own (i := l) sr.wm s3 x3 r3 (fun z => nomatch z) (by rw [List.length_set, List.length_set]; exact hz.2.2)
    refine ⟨v, v', v'', rfl, h W1 H1 _ s4 x4 fun m hm => ?_⟩
    rw [List.getElem?_set_ne fun (z : l = m) => hll (by rw [z]; exact hm), List.getElem?_set_ne fun (z : j = m) => hlj (by rw [z]; exact hm), List.getElem?_set_ne fun (z : i = m) => hli (by rw [z]; exact hm)]
end
end DL

set_option maxHeartbeats 4000000
namespace DL
open PySem PySem.Spec PyProof.Rows L2
/-! ## an owned list that is told by its name is frozen, its name is left: x = y if t else z -/
@[simp] def mMv (i : Nat) : FM := fun e => match e[i]? with
  | some (some (.lst xs)) => .ok (.d (.lst xs)) (e.set i none)
  | _ => .stuck
theorem pm_mv {X : Cx} {Wx : WX} (i : Nat) {x : Str} {px : Pos} (hN : X.N[i]? = some x := by rfl) (hv : Vis X.env.scope x := by first | exact Or.inl rfl | exact Or.inr (Or.inl rfl) | exact Or.inr (Or.inr rfl)) (hd : (x == ("__debug__" : Str)) = false := by decide)
    (hcd : (x == ("__classdict__" : Str)) = false := by decide) : PM X Wx (.Name x px) (mMv i) := by
  refine PM.of ⟨_, pe_var hN hv hd hcd, fun W H σ e Q sr h => ?_⟩
  unfold mMv at h
  split at h
  rotate_left
  · exact h.elim
  rename_i xs hs
  obtain ⟨a, vs, h1, hw, h2, h3⟩ := sr.hit hs
  have hl : i < e.length := (List.getElem?_eq_some_iff.mp hs).1
  have oa : Ow σ e a := ⟨i, _, hs, rfl, h1⟩
  have back : ∀ {j : Nat} {t : S}, (e.set i none)[j]? = some (some t) → i ≠ j ∧ e[j]? = some (some t) := by
    intro j t q
    by_cases z : i = j
    · subst z
      rw [List.getElem?_set_self hl] at q
      cases q
    · rw [List.getElem?_set_ne z] at q
      exact ⟨z, q⟩
  have ow : ∀ b, Ow σ (e.set i none) b → Ow σ e b ∧ b ≠ a := fun b ⟨j, t, q1, q2, q3⟩ =>
    ⟨⟨j, t, (back q1).2, q2, q3⟩, fun z => (back q1).1 (sr.one i j _ t a hs (back q1).2 rfl q2 h1 (z ▸ q3))⟩
  have sb : ∀ b ∈ W.filter (fun z => decide (z ≠ a)), b ∈ W := fun b hb => (mem_drop.mp hb).1
  have sr0 : SR W X.K H σ (e.set i none) := ⟨sr.tb, sr.wm, by rw [List.length_set, sr.len], fun j t q => sr.sl j t (back q).2, fun j k t t' a q1 q2 => sr.one j k t t' a (back q1).2 (back q2).2⟩
  have sr2 : SR (W.filter fun z => decide (z ≠ a)) X.K H σ (e.set i none) := sr0.less sb fun b o => mem_drop.mpr ⟨sr0.ow o, (ow b o).2⟩
  refine ⟨.ref a, h1, h (.ref a) (W.filter fun z => decide (z ≠ a)) H sr2 ⟨fun b o q _ _ => q, fun b o q n z => n (sb b z), fun b hb n => ⟨mem_drop.mpr ⟨hb, fun z => n (z ▸ oa)⟩, fun o => n (ow b o).1⟩, fun b o => .inl (ow b o).1, fun b q => q⟩ ⟨a, vs, rfl, ⟨h2, fun z => (mem_drop.mp z).2 rfl⟩, RpL.weak sb sr.wm h3⟩ fun z => nomatch z⟩
/-! ## x, y = two new lists -/
@[simp] def sParO (i j : Nat) (fa fb : FM) : FS := fun e => match fa e with
  | .ok (.lst xs) e1 => (match fb e1 with
    | .ok (.lst ys) e2 => if i < e2.length ∧ j < e2.length then .nx ((e2.set i (some (.lst xs))).set j (some (.lst ys))) else .stuck
    | .ex x e2 => .ex x e2
    | _ => .stuck)
  | .ex x e1 => .ex x e1
  | _ => .stuck
theorem sd_parO {X : Cx} {Wx : WX} {lk : List Nat} {a b : Expr} {fa fb : FM} {pos : Pos} (i j : Nat) {x y : Str} {px py pt : Pos} {kt k2 : Nat} {pt2 : Pos} (hc : X.calm = true) (ha : PM X Wx a fa) (hb : PM X Wx b fb) (hN : X.N.Nodup)
    (hw : swappedStores [.Tuple [.Name x px, .Name y py] kt pt] (.Tuple [a, b] k2 pt2) X.env = pure (some [x, y]))
    (hli : i ∉ lk := by decide) (hlj : j ∉ lk := by decide) (hi : X.N[i]? = some x := by rfl) (hj : X.N[j]? = some y := by rfl) (hij : i ≠ j := by decide)
    (hx : X.env.scope.names.lookup x = some .local := by rfl) (hy : X.env.scope.names.lookup y = some .local := by rfl)
    (hs1 : starEach (a :: [b]) X.env = (false, eval a X.env) :: starEach [b] X.env := by rfl) (hs2 : starEach (b :: []) X.env = (false, eval b X.env) :: starEach [] X.env := by rfl)
    (hs : swapsWithSole [.Tuple [.Name x px, .Name y py] kt pt] (.Tuple [a, b] k2 pt2) pos.line X.env = pure false := by rfl) :
    SD X Wx lk (.Assign [.Tuple [.Name x px, .Name y py] kt pt] (.Tuple [a, b] k2 pt2) pos) (sParO i j fa fb) := by
  obtain ⟨t, p, ka⟩ := ha.run
  obtain ⟨u, q, kb⟩ := hb.run
  refine SD.of ⟨_, ps_par hc hN hi hj hij hx hy (pa_cons p (pa_cons q pa_nil hs2) hs1) hw hs, fun W H σ e D sr h => ka W H σ e _ sr ?_⟩
  unfold sParO at h
  revert h
  generalize fa e = o
  intro h
  cases o with
  | stuck => exact h.elim
  | ex z e1 => exact fun c d W' H' sr' x' r => h c d W' H' σ sr' x' (fun _ _ => rfl) r
  | ok s e1 =>
    cases s with
    | d y => exact h.elim
    | lst xs =>
      intro v W1 H1 sr1 x1 r1 fr1
      refine kb W1 H1 σ e1 _ sr1 ?_
      have h : FlK X.K X.mg Wx lk W H σ e D (match fb e1 with
        | .ok (.lst ys) e2 => if i < e2.length ∧ j < e2.length then .nx ((e2.set i (some (.lst xs))).set j (some (.lst ys))) else .stuck
        | .ex x e2 => .ex x e2
        | _ => .stuck) := h
      revert h
      generalize fb e1 = o2
      intro h
      cases o2 with
      | stuck => exact h.elim
      | ex z e2 => exact fun c d W' H' sr' x' r => h c d W' H' σ sr' (x1.trans x') (fun _ _ => rfl) r
      | ok s2 e2 =>
        cases s2 with
        | d y => exact h.elim
        | lst ys =>
          intro v' W2 H2 sr2 x2 r2 fr2
          have h : FlK X.K X.mg Wx lk W H σ e D (if i < e2.length ∧ j < e2.length then .nx ((e2.set i (some (.lst xs))).set j (some (.lst ys))) else .stuck) := h
          split at h
          rotate_left
          · exact h.elim
          rename_i hz
          obtain ⟨b1, us, rfl, q1, q2, q3⟩ := r1
          have ar1 : ARok H W1 X.K H1 σ e1 (.ow xs) (.ref b1) := ⟨b1, us, rfl, (fr1 rfl b1 rfl).1, q1, q2, q3, (fr1 rfl b1 rfl).2⟩
          obtain ⟨g1, f1⟩ := (ar1.go x2 sr1).rs (s := .lst xs) rfl
          obtain ⟨s3, x3⟩ := store_own (i := i) sr.wm sr2 (x1.trans x2) g1 f1 hz.1
          have hσ : i < σ.length := by rw [← sr2.len]; exact hz.1
          have f2' : (S.lst ys).own = true → ∀ a, v' = .ref a → H a = none ∧ ¬ Ow (σ.set i (some (.ref b1))) (e2.set i (some (.lst xs))) a := by
            intro wo a ea
            obtain ⟨n1, n2⟩ := fr2 wo a ea
            refine ⟨x1.dom a n1, fun ⟨l, t, w1, w2, w3⟩ => ?_⟩
            by_cases z : i = l
            · subst z
              rw [List.getElem?_set_self hσ] at w3
              cases w3
              rw [q2] at n1
              cases n1
            · rw [List.getElem?_set_ne z] at w1 w3
              exact n2 ⟨l, t, w1, w2, w3⟩
          obtain ⟨s4, x4⟩ := store_own (i := j) sr.wm s3 x3 r2 f2' (by rw [List.length_set]; exact hz.2)
          refine ⟨.ref b1, v', rfl, h W2 H2 _ s4 x4 fun l hl => ?_⟩
          rw [List.getElem?_set_ne fun (z : j = l) => hlj (by rw [z]; exact hl), List.getElem?_set_ne fun (z : i = l) => hli (by rw [z]; exact hl)]
end DL

set_option maxHeartbeats 4000000
namespace DL
open PySem PySem.Spec PyProof.Rows L2

/-! # Plain lemmas about data -/
mutual
/-- small enough to be shown and told apart -/
def D.nice : D → Bool
  | .non => true
  | .bl _ => true
  | .int i => decide (i.natAbs.log2 < 1900)
  | .str x => x.cps.toList.all fun c => decide (c < 1114112)
  | .tup xs => niceL xs
  | .lst xs => niceL xs
  | .ro xs => niceL xs
  | .dic _ _ => false
def niceL : List D → Bool
  | [] => true
  | d :: ds => d.nice && niceL ds
end
mutual
def D.size : D → Nat
  | .str x => x.length
  | .tup xs => sizeL xs
  | .lst xs => sizeL xs
  | .ro xs => sizeL xs
  | .dic _ _ => 0
  | .non => 0
  | .bl _ => 0
  | .int _ => 0
def sizeL : List D → Nat
  | [] => 0
  | d :: ds => d.size + 1 + sizeL ds
end
mutual
def D.dep : D → Nat
  | .tup xs => depL xs + 1
  | .lst xs => depL xs + 1
  | .ro xs => depL xs + 1
  | .str _ => 0
  | .dic _ _ => 0
  | .non => 0
  | .bl _ => 0
  | .int _ => 0
def depL : List D → Nat
  | [] => 0
  | d :: ds => max d.dep (depL ds)
end
mutual
theorem D.nice_okp : ∀ d : D, d.nice = true → d.okp = true
  | .non, _ => rfl
  | .bl _, _ => rfl
  | .int _, _ => rfl
  | .str _, _ => rfl
  | .tup xs, h => niceL_okp xs h
  | .lst xs, h => niceL_okp xs h
  | .ro xs, h => niceL_okp xs h
theorem niceL_okp : ∀ ds : List D, niceL ds = true → okpL ds = true
  | [], _ => rfl
  | d :: ds, h => by
    obtain ⟨a, b⟩ := Bool.and_eq_true_iff.mp (show (d.nice && niceL ds) = true from h)
    show (d.okp && okpL ds) = true
    rw [D.nice_okp d a, niceL_okp ds b]
    rfl
end
mutual
theorem D.nice_lay : ∀ d : D, d.nice = true → d.py.canLay0 = true
  | .non, _ => by simp only [D.py, PyData.canLay0]
  | .bl _, _ => by simp only [D.py, PyData.canLay0]
  | .int _, _ => by simp only [D.py, PyData.canLay0]
  | .str x, h => by
    have h : (x.cps.toList.all fun c => decide (c < 1114112)) = true := h
    simp only [D.py, PyData.canLay0, PyData.strOk]
    rw [← Array.all_toList]
    exact h
  | .tup xs, h => by simp only [D.py, PyData.canLay0]; exact niceL_lay xs h
  | .lst xs, h => by simp only [D.py, PyData.canLay0]; exact niceL_lay xs h
  | .ro xs, h => by simp only [D.py, PyData.canLay0]; exact niceL_lay xs h
theorem niceL_lay : ∀ ds : List D, niceL ds = true → PyData.canLayAll0 (pyL ds) = true
  | [], _ => by simp only [pyL, PyData.canLayAll0]
  | d :: ds, h => by
    obtain ⟨a, b⟩ := Bool.and_eq_true_iff.mp (show (d.nice && niceL ds) = true from h)
    simp only [pyL, PyData.canLayAll0, D.nice_lay d a, niceL_lay ds b, Bool.and_self]
end
mutual
theorem D.py_depth : ∀ d : D, d.nice = true → d.py.depth = d.dep
  | .non, _ => by simp only [D.py, PyData.depth, D.dep]
  | .bl _, _ => by simp only [D.py, PyData.depth, D.dep]
  | .int _, _ => by simp only [D.py, PyData.depth, D.dep]
  | .str _, _ => by simp only [D.py, PyData.depth, D.dep]
  | .tup xs, h => by simp only [D.py, PyData.depth, D.dep, pyL_depth xs h]
  | .lst xs, h => by simp only [D.py, PyData.depth, D.dep, pyL_depth xs h]
  | .ro xs, h => by simp only [D.py, PyData.depth, D.dep, pyL_depth xs h]
theorem pyL_depth : ∀ ds : List D, niceL ds = true → PyData.depthAll (pyL ds) = depL ds
  | [], _ => by simp only [pyL, PyData.depthAll, depL]
  | d :: ds, h => by
    obtain ⟨a, b⟩ := Bool.and_eq_true_iff.mp (show (d.nice && niceL ds) = true from h)
    simp only [pyL, PyData.depthAll, depL, D.py_depth d a, pyL_depth ds b]
end
mutual
theorem D.py_bulk : ∀ d : D, d.nice = true → d.py.bulk = d.size
  | .non, _ => by simp only [D.py, PyData.bulk, D.size]
  | .bl _, _ => by simp only [D.py, PyData.bulk, D.size]
  | .int _, _ => by simp only [D.py, PyData.bulk, D.size]
  | .str _, _ => by simp only [D.py, PyData.bulk, D.size]; rfl
  | .tup xs, h => by simp only [D.py, PyData.bulk, D.size, pyL_bulk xs h]
  | .lst xs, h => by simp only [D.py, PyData.bulk, D.size, pyL_bulk xs h]
  | .ro xs, h => by simp only [D.py, PyData.bulk, D.size, pyL_bulk xs h]
theorem pyL_bulk : ∀ ds : List D, niceL ds = true → PyData.bulkAll (pyL ds) = sizeL ds
  | [], _ => by simp only [pyL, PyData.bulkAll, sizeL]
  | d :: ds, h => by
    obtain ⟨a, b⟩ := Bool.and_eq_true_iff.mp (show (d.nice && niceL ds) = true from h)
    simp only [pyL, PyData.bulkAll, sizeL, D.py_bulk d a, pyL_bulk ds b]
end
mutual
theorem D.nice_shows : ∀ d : D, d.nice = true → d.py.showable = true ∧ d.py.leavesShort 1902 = true
  | .non, _ => by simp only [D.py, PyData.showable, PyData.leavesShort, and_self]
  | .bl _, _ => by simp only [D.py, PyData.showable, PyData.leavesShort, and_self]
  | .int i, h => by
    have h : i.natAbs.log2 < 1900 := of_decide_eq_true h
    simp only [D.py, PyData.showable, PyData.leavesShort, decide_eq_true_eq]
    refine ⟨by omega, ?_⟩
    have := int_text_length_le (a := i) (k := 1900) (by decide) h
    show (Str.ofString (toString i)).length ≤ 1902
    exact Nat.le_trans (Nat.le_of_eq (PySem.ofString_length _)) (Nat.le_trans this (by decide))
  | .str x, h => by
    have h : (x.cps.toList.all fun c => decide (c < 1114112)) = true := h
    simp only [D.py, PyData.showable, PyData.leavesShort, true_and]
    rw [List.all_eq_true] at h ⊢
    intro c hc
    have := of_decide_eq_true (h c hc)
    exact decide_eq_true (by omega)
  | .tup xs, h => by simp only [D.py, PyData.showable, PyData.leavesShort]; exact niceL_shows xs h
  | .lst xs, h => by simp only [D.py, PyData.showable, PyData.leavesShort]; exact niceL_shows xs h
  | .ro xs, h => by simp only [D.py, PyData.showable, PyData.leavesShort]; exact niceL_shows xs h
theorem niceL_shows : ∀ ds : List D, niceL ds = true → PyData.showableAll (pyL ds) = true ∧ PyData.leavesShortAll 1902 (pyL ds) = true
  | [], _ => by simp only [pyL, PyData.showableAll, PyData.leavesShortAll, and_self]
  | d :: ds, h => by
    obtain ⟨a, b⟩ := Bool.and_eq_true_iff.mp (show (d.nice && niceL ds) = true from h)
    simp only [pyL, PyData.showableAll, PyData.leavesShortAll, (D.nice_shows d a).1, (D.nice_shows d a).2, (niceL_shows ds b).1, (niceL_shows ds b).2, Bool.and_self, and_self]
end
theorem eqok_nice {d : D} (h : d.nice = true) (hd : d.dep ≤ 64) : eqok d = true := by
  unfold eqok SeqAt.shaped
  rw [D.nice_okp d h, D.nice_lay d h, D.py_depth d h, decide_eq_true hd]
  rfl
theorem shown_short {d : D} (h : d.nice = true) (hs : d.size ≤ 8000) : d.py.shown.length ≤ SZ := by
  have := PyData.shown_le_bulk 1902 (by decide) d.py (D.nice_shows d h).2
  rw [D.py_bulk d h] at this
  unfold SZ
  omega
theorem repr_lst {xs : List D} (h : niceL xs = true) (hd : depL xs ≤ 60) (hs : sizeL xs ≤ 8000) : gRepr [.lst xs] = some (.fz (.str (D.lst xs).py.shown)) :=
  if_pos ⟨niceL_okp xs h, (D.nice_shows (.lst xs) h).1, by rw [D.py_depth (.lst xs) h]; show depL xs + 1 ≤ 100; omega, shown_short (d := .lst xs) h hs⟩
/-! ### equality -/
theorem gEq_nice {x y : D} (hx : x.nice = true) (hy : y.nice = true) (dx : x.dep ≤ 64) (dy : y.dep ≤ 64) : gEq x y = some (.fz (.bl (eqb x y))) := if_pos ⟨eqok_nice hx dx, eqok_nice hy dy⟩
theorem gNe_nice {x y : D} (hx : x.nice = true) (hy : y.nice = true) (dx : x.dep ≤ 64) (dy : y.dep ≤ 64) : gNe x y = some (.fz (.bl (!eqb x y))) := if_pos ⟨eqok_nice hx dx, eqok_nice hy dy⟩
theorem eqb_refl {x : D} (h : x.nice = true) : eqb x x = true := PySem.SeqAt.eqv_refl x.py (D.nice_lay x h)
theorem eqb_int (i j : Int) : eqb (.int i) (.int j) = decide (i = j) := by
  unfold eqb
  simp only [D.py, PyData.eqv]
  rw [Bool.eq_iff_iff]
  simp
theorem eqvAll_dints : ∀ v w : List Int, PyData.eqvAll (pyL (dints v)) (pyL (dints w)) = decide (v = w)
  | [], [] => by simp [dints, pyL, PyData.eqvAll]
  | [], _ :: _ => by simp [dints, pyL, PyData.eqvAll]
  | _ :: _, [] => by simp [dints, pyL, PyData.eqvAll]
  | a :: v, b :: w => by
    have ih := eqvAll_dints v w
    show (PyData.eqv (.int a) (.int b) && PyData.eqvAll (pyL (dints v)) (pyL (dints w))) = _
    rw [ih, Bool.eq_iff_iff]
    simp [PyData.eqv]
theorem eqb_tupI (v w : List Int) : eqb (.tup (dints v)) (.tup (dints w)) = decide (v = w) := by
  unfold eqb
  simp only [D.py, PyData.eqv]
  exact eqvAll_dints v w
theorem eqb_lstI (v w : List Int) : eqb (.lst (dints v)) (.lst (dints w)) = decide (v = w) := by
  unfold eqb
  simp only [D.py, PyData.eqv]
  exact eqvAll_dints v w
/-! ### steps of mirrors -/
theorem pAnd_t {fa fb : FP} {e : En} (h : fa e = some (.fz (.bl true))) : pAnd fa fb e = fb e := by unfold pAnd; rw [h]; rfl
theorem pAnd_f {fa fb : FP} {e : En} (h : fa e = some (.fz (.bl false))) : pAnd fa fb e = some (.fz (.bl false)) := by unfold pAnd; rw [h]; rfl
theorem ret_fz {f : FP} {e : En} {x : D} (h : f e = some (.fz x)) : sRet (mPP f) e = .rt (.d x) e := by unfold sRet mPP; rw [h]; rfl
theorem ret_fr {f : FP} {e : En} {xs : List D} (h : f e = some (.fr xs)) : sRet (mPP f) e = .rt (.lst xs) e := by unfold sRet mPP; rw [h]; rfl
theorem set_fz {f : FP} {e : En} {x : D} {i : Nat} (h : f e = some (.fz x)) (hi : i < e.length) : sSet i (mPP f) e = .nx (e.set i (some (.d x))) := by unfold sSet mPP; rw [h]; exact if_pos hi
theorem set_fr {f : FP} {e : En} {xs : List D} {i : Nat} (h : f e = some (.fr xs)) (hi : i < e.length) : sSet i (mPP f) e = .nx (e.set i (some (.d (.lst xs)))) := by unfold sSet mPP; rw [h]; exact if_pos hi
theorem seq_nx {f g : FS} {e e1 : En} (h : f e = .nx e1) : sSeq f g e = g e1 := by unfold sSeq; rw [h]; rfl
theorem seq_rt {f g : FS} {e e1 : En} {s : S} (h : f e = .rt s e1) : sSeq f g e = .rt s e1 := by unfold sSeq; rw [h]; rfl
theorem seq_ex {f g : FS} {e e1 : En} {x : XD} (h : f e = .ex x e1) : sSeq f g e = .ex x e1 := by unfold sSeq; rw [h]; rfl
theorem if_t {ft : FT} {f g : FS} {e : En} (h : ft e = some true) : sIf (tMT ft) f g e = f e := by unfold sIf tMT; rw [h]; rfl
theorem if_f {ft : FT} {f g : FS} {e : En} (h : ft e = some false) : sIf (tMT ft) f g e = g e := by unfold sIf tMT; rw [h]; rfl
theorem pIf_t {ft : FT} {f g : FP} {e : En} (h : ft e = some true) : pIf ft f g e = f e := by unfold pIf; rw [h]; rfl
theorem pIf_f {ft : FT} {f g : FP} {e : En} (h : ft e = some false) : pIf ft f g e = g e := by unfold pIf; rw [h]; rfl
theorem tVal_ok {f : FP} {e : En} {b : Bool} (h : f e = some (.fz (.bl b))) : tVal f e = some b := by unfold tVal; rw [h]; rfl
theorem aCons_ok {fa : FP} {fs : FA} {e : En} {r : RV} {rs : List RV} (h : fa e = some r) (h2 : fs e = some rs) : aCons fa fs e = some (r :: rs) := by unfold aCons; rw [h, h2]; rfl
theorem pCa_ok {g : List D → Option RV} {fs : FA} {e : En} {rs : List RV} (h : fs e = some rs) : pCa g fs e = g (rs.map RV.view) := by unfold pCa; rw [h]; rfl
theorem p2_ok {g : D → D → Option RV} {fa fb : FP} {e : En} {a b : RV} (h : fa e = some a) (h2 : fb e = some b) : p2 g fa fb e = g a.view b.view := by unfold p2; rw [h, h2]; rfl
theorem pFd_ok {F : List S → Out} {fs : FA} {e : En} {rs : List RV} (h : fs e = some rs) : pFd F fs e = callP F rs := by unfold pFd; rw [h]; rfl
theorem callP_fz {F : List S → Out} {rs : List RV} {x : D} {e : En} (h : F (rs.map fun r => .d r.view) = .ok (.d x) e) (c : (rs.all fun r => !r.lent) = true ∨ x.flat = true) : callP F rs = some (.fz x) := by
  unfold callP
  rw [h]
  exact if_pos c
theorem callP_fr {F : List S → Out} {rs : List RV} {xs : List D} {e : En} (h : F (rs.map fun r => .d r.view) = .ok (.lst xs) e) (c : (rs.all fun r => !r.lent) = true) : callP F rs = some (.fr xs) := by
  unfold callP
  rw [h]
  exact if_pos (.inl c)
theorem pLc_ok {vs : List Nat} {fi : FI} {bind : FG} {ft : FT} {fe : FP} {e : En} {ds xs : List D} {b : Bool} (h : fi e = some (ds, b)) (h2 : lcL bind ft fe (wipeE e vs) ds = some xs) (hz : xs.length ≤ SZ) : pLc vs fi bind ft fe e = some (.fr xs) := by
  unfold pLc
  rw [h, Option.bind_some, h2, Option.bind_some]
  exact if_pos hz
/-! ### whole numbers -/
theorem nice_int {i : Int} (h : i.natAbs < 2 ^ 64) : (D.int i).nice = true := decide_eq_true (by
  by_cases z : i.natAbs = 0
  · rw [z]; decide
  · exact Nat.lt_of_lt_of_le ((Nat.log2_lt z).mpr h) (by decide))
theorem nice_dints : ∀ {v : List Int}, (∀ i ∈ v, i.natAbs < 2 ^ 64) → niceL (dints v) = true
  | [], _ => rfl
  | i :: v, h => by
    show ((D.int i).nice && niceL (dints v)) = true
    rw [nice_int (h i List.mem_cons_self), nice_dints fun j hj => h j (List.mem_cons_of_mem _ hj)]
    rfl
theorem size_dints : ∀ v : List Int, sizeL (dints v) = v.length
  | [] => rfl
  | i :: v => by
    show 0 + 1 + sizeL (dints v) = _
    rw [size_dints v, List.length_cons]
    omega
theorem dep_dints : ∀ v : List Int, depL (dints v) = 0
  | [] => rfl
  | i :: v => by
    show max 0 (depL (dints v)) = 0
    rw [dep_dints v]
    rfl
@[simp] theorem dints_length (v : List Int) : (dints v).length = v.length := List.length_map ..
@[simp] theorem dints_nil : dints [] = [] := rfl
@[simp] theorem dints_cons (i : Int) (v : List Int) : dints (i :: v) = .int i :: dints v := rfl
theorem dints_append (v w : List Int) : dints (v ++ w) = dints v ++ dints w := List.map_append ..
theorem atI_map {α β : Type} (f : α → β) (xs : List α) (i : Int) : atI (xs.map f) i = (atI xs i).map f := by
  unfold atI
  rw [List.length_map]
  cases ixN xs.length i with
  | none => rfl
  | some j => simp
end DL

set_option maxHeartbeats 4000000
namespace DL
open PySem PySem.Spec PyProof.Rows L2
/-! # What is shown is a string of the language -/
def good (z : Str) : Prop := ∀ c ∈ z.cps.toList, c < 1114112
theorem char_lt (c : Char) : c.toNat < 1114112 := by
  have h : c.val.toNat < 0xd800 ∨ (0xdfff < c.val.toNat ∧ c.val.toNat < 0x110000) := c.valid
  have e : c.toNat = c.val.toNat := rfl
  omega
theorem good_of (s : String) : good (Str.ofString s) := by
  rw [Str.ofString_eq_toList]
  intro c hc
  obtain ⟨d, _, rfl⟩ := List.mem_map.mp (show c ∈ s.toList.map Char.toNat from hc)
  exact char_lt d
theorem good_add {x y : Str} (h : good x) (h2 : good y) : good (x ++ y) := by
  obtain ⟨x⟩ := x
  obtain ⟨y⟩ := y
  intro c hc
  have : c ∈ (x ++ y).toList := hc
  rw [Array.toList_append] at this
  rcases List.mem_append.mp this with q | q
  · exact h c q
  · exact h2 c q
theorem good_join {s : Str} (hs : good s) : ∀ {xs : List Str}, (∀ x ∈ xs, good x) → good (Str.join s xs)
  | [], _ => fun c hc => absurd hc (by show ¬ c ∈ ([] : List Nat); simp)
  | [x], h => h x List.mem_cons_self
  | x :: y :: xs, h => by
    show good (x ++ s ++ Str.join s (y :: xs))
    exact good_add (good_add (h x List.mem_cons_self) hs) (good_join hs fun z hz => h z (List.mem_cons_of_mem _ hz))
theorem good_char {q c : Nat} (hq : q < 1114112) (hc : c < 1114112) : ∀ d ∈ Builtin.Str.reprChar q c, d < 1114112 := by
  have hx : ∀ (w : Nat) d, d ∈ List.replicate (w - ((Nat.toDigits 16 c).map Char.toNat).length) 48 ++ (Nat.toDigits 16 c).map Char.toNat → d < 1114112 := fun w d hd => by
    rcases List.mem_append.mp hd with q | q
    · rw [(List.mem_replicate.mp q).2]; decide
    · obtain ⟨e, _, rfl⟩ := List.mem_map.mp q
      exact char_lt e
  intro d hd
  unfold Builtin.Str.reprChar at hd
  dsimp only at hd
  repeat' split at hd
  all_goals first
    | (simp only [List.mem_cons, List.not_mem_nil, or_false] at hd; omega)
    | (rcases List.mem_append.mp hd with z | z
       · simp only [List.mem_cons, List.not_mem_nil, or_false] at z; omega
       · exact hx _ _ z)
theorem good_fold {q : Nat} (hq : q < 1114112) : ∀ (l : List Nat) (acc : Array Nat), (∀ c ∈ l, c < 1114112) → (∀ c ∈ acc.toList, c < 1114112) → ∀ c ∈ (l.foldl (fun out c => out ++ (Builtin.Str.reprChar q c).toArray) acc).toList, c < 1114112
  | [], _, _, h => h
  | x :: l, acc, hl, h => by
    refine good_fold hq l _ (fun c hc => hl c (List.mem_cons_of_mem _ hc)) fun c hc => ?_
    rw [Array.toList_append] at hc
    rcases List.mem_append.mp hc with z | z
    · exact h c z
    · exact good_char hq (hl x List.mem_cons_self) c z
theorem good_repr {x : Str} (h : good x) : good (reprText x) := by
  have hq : reprQuote x < 1114112 := by unfold reprQuote; split <;> decide
  intro c hc
  unfold reprText at hc
  rw [Array.toList_push, ← Array.foldl_toList] at hc
  rcases List.mem_append.mp hc with z | z
  · exact good_fold hq _ _ h (fun d hd => by have : d = reprQuote x := by simpa using hd
                                             rw [this]; exact hq) c z
  · rw [List.mem_singleton.mp z]; exact hq
mutual
theorem good_shown : ∀ d : D, d.nice = true → good d.py.shown
  | .non, _ => by simp only [D.py, PyData.shown_none]; exact good_of _
  | .bl b, _ => by
    simp only [D.py, PyData.shown_bool]
    cases b <;> exact good_of _
  | .int i, _ => by simp only [D.py, PyData.shown_int]; exact good_of _
  | .str x, h => by
    simp only [D.py, PyData.shown_str]
    exact good_repr fun c hc => of_decide_eq_true (List.all_eq_true.mp (show (x.cps.toList.all fun c => decide (c < 1114112)) = true from h) c hc)
  | .tup xs, h => by
    simp only [D.py, PyData.shown_tuple]
    exact good_add (good_add (good_of _) (good_join (good_of _) (good_shownL xs h))) (good_of _)
  | .lst xs, h => by
    simp only [D.py, PyData.shown_list]
    exact good_add (good_add (good_of _) (good_join (good_of _) (good_shownL xs h))) (good_of _)
  | .ro xs, h => by
    simp only [D.py, PyData.shown_list]
    exact good_add (good_add (good_of _) (good_join (good_of _) (good_shownL xs h))) (good_of _)
theorem good_shownL : ∀ ds : List D, niceL ds = true → ∀ x ∈ PyData.shownAll (pyL ds), good x
  | [], _ => fun x hx => absurd hx (by simp only [pyL, PyData.shownAll_nil]; simp)
  | d :: ds, h => by
    obtain ⟨a, b⟩ := Bool.and_eq_true_iff.mp (show (d.nice && niceL ds) = true from h)
    intro x hx
    simp only [pyL, PyData.shownAll_cons] at hx
    rcases List.mem_cons.mp hx with rfl | q
    · exact good_shown d a
    · exact good_shownL ds b x q
end
theorem good.nice {z : Str} (h : good z) : (D.str z).nice = true := by
  show (z.cps.toList.all fun c => decide (c < 1114112)) = true
  rw [List.all_eq_true]
  exact fun c hc => decide_eq_true (h c hc)
/-- two shown alike are told equal -/
theorem shown_ne_same {x : D} (h : x.nice = true) : gNe (.str x.py.shown) (.str x.py.shown) = some (.fz (.bl false)) := by
  have n := (good_shown x h).nice
  rw [gNe_nice n n (Nat.zero_le _) (Nat.zero_le _), eqb_refl n]
  rfl
end DL

set_option maxHeartbeats 4000000
namespace FG
/-! # Words with undoings: plain laws of free reduction -/
/-- no neighbours undo one another -/
def Red : List Int → Prop
  | [] => True
  | [_] => True
  | a :: b :: w => a + b ≠ 0 ∧ Red (b :: w)
/-- the reversed stack: its head is the last letter -/
def push (s : List Int) (a : Int) : List Int := match s with
  | [] => [a]
  | b :: r => if b + a = 0 then r else a :: b :: r
def stk (w : List Int) (s : List Int) : List Int := w.foldl push s
def red (w : List Int) : List Int := (stk w []).reverse
def inv (w : List Int) : List Int := (w.map fun a => -a).reverse
theorem Red.tail {a : Int} {w : List Int} (h : Red (a :: w)) : Red w := by
  cases w with
  | nil => trivial
  | cons b w => exact h.2
theorem push_eq (b : Int) (r : List Int) (a : Int) : push (b :: r) a = if b + a = 0 then r else a :: b :: r := rfl
theorem push_red {s : List Int} (h : Red s) (a : Int) : Red (push s a) := by
  cases s with
  | nil => trivial
  | cons b r =>
    rw [push_eq]
    by_cases q : b + a = 0
    · rw [if_pos q]; exact h.tail
    · rw [if_neg q]; exact ⟨fun w => q (by omega), h⟩
theorem push_back {s : List Int} (h : Red s) (a : Int) : push (push s a) (-a) = s := by
  cases s with
  | nil =>
    show push [a] (-a) = []
    rw [push_eq, if_pos (by omega)]
  | cons b r =>
    by_cases q : b + a = 0
    · have e : push (b :: r) a = r := by simp [push, q]
      rw [e]
      have : -a = b := by omega
      rw [this]
      cases r with
      | nil => rfl
      | cons c t =>
        have := h.1
        simp only [push]
        rw [if_neg (by omega)]
    · have e : push (b :: r) a = a :: b :: r := by simp [push, q]
      rw [e]
      simp only [push]
      rw [if_pos (by omega)]
theorem stk_red : ∀ (w : List Int) {s : List Int}, Red s → Red (stk w s)
  | [], _, h => h
  | a :: w, _, h => stk_red w (push_red h a)
theorem stk_append (u v s : List Int) : stk (u ++ v) s = stk v (stk u s) := List.foldl_append ..
/-- a letter and its undoing, put in anywhere, change nothing -/
theorem stk_pair {s : List Int} (h : Red s) (u v : List Int) (a : Int) : stk (u ++ a :: -a :: v) s = stk (u ++ v) s := by
  rw [stk_append, stk_append]
  show stk v (push (push (stk u s) a) (-a)) = _
  rw [push_back (stk_red u h)]
/-- a reduced row is put on the stack letter by letter -/
theorem stk_self : ∀ (w : List Int) (s : List Int), Red (w.reverse ++ s) → stk w s = w.reverse ++ s
  | [], _, _ => rfl
  | a :: w, s, h => by
    have e : (a :: w).reverse ++ s = w.reverse ++ (a :: s) := by simp
    rw [e] at h ⊢
    have hs : Red (a :: s) := by
      have : ∀ (u t : List Int), Red (u ++ t) → Red t := fun u t => by
        induction u with
        | nil => exact id
        | cons b u ih => exact fun q => ih q.tail
      exact this _ _ h
    have p : push s a = a :: s := by
      cases s with
      | nil => rfl
      | cons b r =>
        have := hs.1
        rw [push_eq, if_neg (by omega)]
    show stk w (push s a) = _
    rw [p]
    exact stk_self w (a :: s) h
theorem red_cat : ∀ (u : List Int) {b : Int} {t : List Int}, Red (u ++ [b]) → (∀ c r, t = c :: r → b + c ≠ 0) → Red t → Red (u ++ b :: t)
  | [], b, t, _, h, ht => by
    cases t with
    | nil => trivial
    | cons c r => exact ⟨h c r rfl, ht⟩
  | [a], b, t, h0, h, ht => ⟨h0.1, red_cat [] trivial h ht⟩
  | a :: d :: u, b, t, h0, h, ht => ⟨h0.1, red_cat (d :: u) h0.2 h ht⟩
theorem red_rev : ∀ {w : List Int}, Red w → Red w.reverse
  | [], _ => trivial
  | [a], _ => trivial
  | a :: b :: w, h => by
    have ih := red_rev (w := b :: w) h.2
    rw [List.reverse_cons] at ih
    have e : (a :: b :: w).reverse = w.reverse ++ b :: [a] := by simp
    rw [e]
    exact red_cat _ ih (fun c r q => by cases q; have := h.1; omega) trivial
theorem red_self {w : List Int} (h : Red w) : red w = w := by
  unfold red
  rw [stk_self w [] (by rw [List.append_nil]; exact red_rev h)]
  simp
theorem red_red (w : List Int) : Red (red w) := red_rev (stk_red w trivial)
/-- alike on every reduced stack -/
def Eqv (u v : List Int) : Prop := ∀ s, Red s → stk u s = stk v s
theorem Eqv.cat {u v x y : List Int} (h : Eqv u v) (h2 : Eqv x y) : Eqv (u ++ x) (v ++ y) := fun s hs => by
  rw [stk_append, stk_append, h s hs, h2 _ (stk_red v hs)]
theorem eqv_push {t : List Int} (a : Int) : Eqv (t.reverse ++ [a]) (push t a).reverse := fun s hs => by
  cases t with
  | nil => rfl
  | cons b r =>
    rw [push_eq]
    by_cases q : b + a = 0
    · rw [if_pos q, List.reverse_cons, List.append_assoc]
      have e : a = -b := by omega
      subst e
      have := stk_pair hs r.reverse [] b
      rw [List.append_nil] at this
      exact this
    · rw [if_neg q]
      simp
theorem eqv_stk : ∀ (w t : List Int), Eqv (t.reverse ++ w) (stk w t).reverse
  | [], t, s, _ => by rw [List.append_nil]; rfl
  | a :: w, t, s, hs => by
    have e : t.reverse ++ a :: w = (t.reverse ++ [a]) ++ w := by simp
    rw [e, ((eqv_push a).cat (fun _ _ => rfl : Eqv w w)) s hs]
    exact eqv_stk w (push t a) s hs
theorem eqv_red (w : List Int) : Eqv w (red w) := eqv_stk w []
theorem Eqv.red {u v : List Int} (h : Eqv u v) : red u = red v := by
  unfold FG.red
  rw [h [] trivial]
theorem red_cat_red (u v : List Int) : red (red u ++ red v) = red (u ++ v) := Eqv.red fun s hs => (((eqv_red u).cat (eqv_red v)) s hs).symm
theorem inv_cons (a : Int) (w : List Int) : inv (a :: w) = inv w ++ [-a] := by unfold inv; simp
theorem inv_append (u v : List Int) : inv (u ++ v) = inv v ++ inv u := by unfold inv; simp
theorem inv_inv (w : List Int) : inv (inv w) = w := by
  unfold inv
  rw [List.map_reverse, List.reverse_reverse, List.map_map]
  have : (fun a : Int => -a) ∘ (fun a : Int => -a) = id := by funext a; simp
  rw [this, List.map_id]
theorem inv_length (w : List Int) : (inv w).length = w.length := by unfold inv; simp
theorem eqv_refl (w : List Int) : Eqv w w := fun _ _ => rfl
theorem eqv_inv : ∀ w : List Int, Eqv (w ++ inv w) []
  | [], _, _ => rfl
  | a :: w, s, hs => by
    rw [inv_cons]
    have e : a :: w ++ (inv w ++ [-a]) = [a] ++ ((w ++ inv w) ++ [-a]) := by simp
    rw [e, ((eqv_refl [a]).cat ((eqv_inv w).cat (eqv_refl [-a]))) s hs]
    exact stk_pair hs [] [] a
theorem eqv_inv' (w : List Int) : Eqv (inv w ++ w) [] := by
  have := eqv_inv (inv w)
  rw [inv_inv] at this
  exact this
theorem red_map_neg : ∀ {w : List Int}, Red w → Red (w.map fun a => -a)
  | [], _ => trivial
  | [_], _ => trivial
  | a :: b :: w, h => ⟨fun (q : -a + -b = 0) => h.1 (by omega), red_map_neg (w := b :: w) h.2⟩
theorem red_inv {w : List Int} (h : Red w) : Red (inv w) := red_rev (red_map_neg h)
end FG

set_option maxHeartbeats 4000000
namespace FG
/-! # Powers and periods -/
def pw (w : List Int) : Nat → List Int
  | 0 => []
  | n + 1 => w ++ pw w n
theorem pw_length (w : List Int) : ∀ n, (pw w n).length = n * w.length
  | 0 => by simp [pw]
  | n + 1 => by simp only [pw, List.length_append, pw_length w n, Nat.succ_mul]; omega
theorem pw_snoc (w : List Int) : ∀ n, pw w (n + 1) = pw w n ++ w
  | 0 => by simp [pw]
  | n + 1 => by
    have := pw_snoc w n
    show w ++ pw w (n + 1) = (w ++ pw w n) ++ w
    rw [this, List.append_assoc]
theorem pw_add (w : List Int) (m : Nat) : ∀ n, pw w (n + m) = pw w n ++ pw w m
  | 0 => by simp [pw]
  | n + 1 => by
    rw [Nat.succ_add]
    show w ++ pw w (n + m) = (w ++ pw w n) ++ pw w m
    rw [pw_add w m n, List.append_assoc]
/-- the letter at a place of the ring c -/
def at_ (c : List Int) (i : Nat) : Int := c.getD (i % c.length) 0
/-- l is a period: c is its first l letters again and again -/
def Per (c : List Int) (l : Nat) : Prop := 0 < l ∧ l ≤ c.length ∧ c = pw (c.take l) (c.length / l)
theorem pw_get (w : List Int) : ∀ (n i : Nat), i < n * w.length → (pw w n).getD i 0 = w.getD (i % w.length) 0
  | 0, i, h => by omega
  | n + 1, i, h => by
    show (w ++ pw w n).getD i 0 = _
    by_cases q : i < w.length
    · rw [Nat.mod_eq_of_lt q, List.getD_eq_getElem?_getD, List.getD_eq_getElem?_getD, List.getElem?_append_left q]
    · have h2 : i - w.length < n * w.length := by rw [Nat.succ_mul] at h; omega
      rw [List.getD_eq_getElem?_getD, List.getElem?_append_right (by omega), ← List.getD_eq_getElem?_getD, pw_get w n (i - w.length) h2, ← Nat.mod_eq_sub_mod (by omega)]
theorem per_at {c : List Int} {l : Nat} (h : Per c l) : l ∣ c.length ∧ ∀ i, at_ c (i + l) = at_ c i := by
  obtain ⟨h0, h1, h2⟩ := h
  have hl : (c.take l).length = l := by rw [List.length_take]; omega
  have hn : c.length = c.length / l * l := by
    have := congrArg List.length h2
    rw [pw_length, hl] at this
    exact this
  have hd : l ∣ c.length := ⟨c.length / l, by rw [Nat.mul_comm]; exact hn⟩
  have key : ∀ i, at_ c i = (c.take l).getD (i % l) 0 := fun i => by
    have hlt : i % c.length < c.length / l * (c.take l).length := by
      rw [hl, ← hn]
      exact Nat.mod_lt _ (by omega)
    have := pw_get (c.take l) (c.length / l) (i % c.length) hlt
    rw [← h2, hl, Nat.mod_mod_of_dvd _ hd] at this
    exact this
  exact ⟨hd, fun i => by rw [key, key, Nat.add_mod_right]⟩
theorem at_mul {c : List Int} {l : Nat} (h : ∀ i, at_ c (i + l) = at_ c i) : ∀ k i, at_ c (i + k * l) = at_ c i
  | 0, i => by rw [Nat.zero_mul, Nat.add_zero]
  | k + 1, i => by rw [Nat.succ_mul, ← Nat.add_assoc, h, at_mul h k i]
theorem at_lt {c : List Int} {i : Nat} (h : i < c.length) : at_ c i = c[i] := by
  unfold at_
  rw [Nat.mod_eq_of_lt h, List.getD_eq_getElem?_getD, List.getElem?_eq_getElem h]
  rfl
theorem at_per {c : List Int} {l : Nat} (hc : c ≠ []) (hd : l ∣ c.length) (h : ∀ i, at_ c (i + l) = at_ c i) : Per c l := by
  have hp : 0 < c.length := List.length_pos_iff.mpr hc
  have h0 : 0 < l := Nat.pos_of_dvd_of_pos hd hp
  have h1 : l ≤ c.length := Nat.le_of_dvd hp hd
  have hl : (c.take l).length = l := by rw [List.length_take]; omega
  have hn : c.length / l * l = c.length := Nat.div_mul_cancel hd
  refine ⟨h0, h1, ?_⟩
  refine List.ext_getElem (by rw [pw_length, hl, hn]) fun i hi hi2 => ?_
  have e := pw_get (c.take l) (c.length / l) i (by rw [hl, hn]; exact hi)
  rw [List.getD_eq_getElem?_getD, List.getElem?_eq_getElem hi2, hl] at e
  have hm : i % l < l := Nat.mod_lt _ h0
  have e2 : (c.take l).getD (i % l) 0 = c[i % l]'(by omega) := by
    rw [List.getD_eq_getElem?_getD, List.getElem?_take_of_lt hm, List.getElem?_eq_getElem (by omega)]
    rfl
  rw [e2] at e
  have e3 : (pw (c.take l) (c.length / l))[i] = c[i % l]'(by omega) := e
  rw [e3, ← at_lt hi, ← at_lt (show i % l < c.length by omega)]
  have := at_mul h (i / l) (i % l)
  rw [Nat.mod_add_div' i l] at this
  exact this
theorem at_sub {c : List Int} {l m : Nat} (h : ∀ i, at_ c (i + l) = at_ c i) (h2 : ∀ i, at_ c (i + m) = at_ c i) (hlm : l ≤ m) : ∀ i, at_ c (i + (m - l)) = at_ c i := fun i => by
  rw [← h, Nat.add_assoc, Nat.sub_add_cancel hlm, h2]
theorem at_gcd {c : List Int} : ∀ (n l m : Nat), l + m ≤ n → (∀ i, at_ c (i + l) = at_ c i) → (∀ i, at_ c (i + m) = at_ c i) → ∀ i, at_ c (i + Nat.gcd l m) = at_ c i
  | 0, l, m, hn, h, h2 => by
    have : l = 0 := by omega
    have : m = 0 := by omega
    subst_vars
    exact h
  | n + 1, l, m, hn, h, h2 => by
    by_cases z : l = 0
    · subst z; rw [Nat.gcd_zero_left]; exact h2
    · by_cases z2 : m = 0
      · subst z2; rw [Nat.gcd_zero_right]; exact h
      · by_cases q : l ≤ m
        · have := at_gcd n l (m - l) (by omega) h (at_sub h h2 q)
          rw [Nat.gcd_sub_self_right q] at this
          exact this
        · have := at_gcd n (l - m) m (by omega) (at_sub h2 h (by omega)) h2
          rw [Nat.gcd_sub_self_left (by omega)] at this
          exact this
/-- the least period -/
def IsLp (c : List Int) (l : Nat) : Prop := Per c l ∧ ∀ m, Per c m → l ≤ m
theorem per_self {c : List Int} (hc : c ≠ []) : Per c c.length := by
  have hp : 0 < c.length := List.length_pos_iff.mpr hc
  refine ⟨hp, Nat.le_refl _, ?_⟩
  rw [Nat.div_self hp, List.take_length]
  simp [pw]
theorem pw_ne {c : List Int} (hc : c ≠ []) {n : Nat} (hn : 1 ≤ n) : pw c n ≠ [] := by
  have hp : 0 < c.length := List.length_pos_iff.mpr hc
  refine List.length_pos_iff.mp ?_
  rw [pw_length]
  exact Nat.mul_pos (by omega) hp
theorem at_pw {c : List Int} (hc : c ≠ []) {n : Nat} (hn : 1 ≤ n) (i : Nat) : at_ (pw c n) i = at_ c i := by
  have hp : 0 < c.length := List.length_pos_iff.mpr hc
  have hlt : i % (pw c n).length < n * c.length := by
    rw [← pw_length]
    exact Nat.mod_lt _ (List.length_pos_iff.mpr (pw_ne hc hn))
  unfold at_
  rw [pw_get c n _ hlt, pw_length, Nat.mod_mod_of_dvd _ (Nat.dvd_mul_left ..)]
end FG

set_option maxHeartbeats 4000000
namespace FG
/-! # Rings, roots -/
theorem Red.right : ∀ {u v : List Int}, Red (u ++ v) → Red v
  | [], _, h => h
  | _ :: u, _, h => Red.right (u := u) h.tail
theorem Red.left : ∀ {u v : List Int}, Red (u ++ v) → Red u
  | [], _, _ => trivial
  | [_], _, _ => trivial
  | a :: b :: u, v, h => ⟨h.1, Red.left (u := b :: u) h.2⟩
/-- gluing: what overlaps in a row that is not empty -/
theorem red_glue : ∀ {u p v : List Int}, Red (u ++ p) → Red (p ++ v) → p ≠ [] → Red (u ++ p ++ v)
  | [], _, _, _, h, _ => h
  | [a], p, v, h, h2, hp => by
    cases p with
    | nil => exact absurd rfl hp
    | cons b p => exact ⟨h.1, h2⟩
  | a :: b :: u, p, v, h, h2, hp => ⟨h.1, red_glue (u := b :: u) h.2 h2 hp⟩
theorem inv_ne {w : List Int} (h : w ≠ []) : inv w ≠ [] := fun e => h (by
  have := inv_length w
  rw [e] at this
  exact List.length_eq_zero_iff.mp this.symm)
/-- c is a ring: it stays reduced when it is put behind itself -/
def Cyc (c : List Int) : Prop := c ≠ [] ∧ Red (c ++ c)
theorem cyc_pw {c : List Int} (h : Cyc c) : ∀ n, Red (pw c n)
  | 0 => trivial
  | 1 => by simp only [pw, List.append_nil]; exact h.2.left
  | n + 2 => by
    have ih := cyc_pw h (n + 1)
    show Red (c ++ (c ++ pw c n))
    rw [← List.append_assoc]
    exact red_glue h.2 ih h.1
theorem cyc_pw' {c : List Int} (h : Cyc c) {n : Nat} (hn : 1 ≤ n) : Cyc (pw c n) := ⟨pw_ne h.1 hn, by rw [← pw_add]; exact cyc_pw h _⟩
theorem cyc_inv {c : List Int} (h : Cyc c) : Cyc (inv c) := ⟨inv_ne h.1, by rw [← inv_append]; exact red_inv h.2⟩
/-- w is the ring c with the head h -/
def Rg (w h c : List Int) : Prop := w = h ++ c ++ inv h ∧ Cyc c
theorem cyc_ends {a : Int} {m : List Int} (h : Cyc (a :: m ++ [-a])) : False := by
  have h2 := h.2
  have e : (a :: m ++ [-a]) ++ (a :: m ++ [-a]) = (a :: m) ++ ([-a, a] ++ (m ++ [-a])) := by simp
  rw [e] at h2
  exact h2.right.1 (by omega)
theorem rg_uniq : ∀ {h h' : List Int} {w c c' : List Int}, Rg w h c → Rg w h' c' → h = h' ∧ c = c'
  | [], [], w, c, c', ⟨e, _⟩, ⟨e', _⟩ => by
    simp [inv] at e e'
    exact ⟨rfl, by rw [← e, ← e']⟩
  | [], b :: s, w, c, c', ⟨e, k⟩, ⟨e', _⟩ => by
    rw [inv_cons] at e'
    simp [inv] at e
    have : c = b :: (s ++ c' ++ inv s) ++ [-b] := by rw [← e, e']; simp [inv]
    rw [this] at k
    exact (cyc_ends k).elim
  | a :: t, [], w, c, c', ⟨e, _⟩, ⟨e', k⟩ => by
    rw [inv_cons] at e
    simp [inv] at e'
    have : c' = a :: (t ++ c ++ inv t) ++ [-a] := by rw [← e', e]; simp [inv]
    rw [this] at k
    exact (cyc_ends k).elim
  | a :: t, b :: s, w, c, c', ⟨e, k⟩, ⟨e', k'⟩ => by
    rw [inv_cons] at e e'
    have q : a :: ((t ++ c ++ inv t) ++ [-a]) = b :: ((s ++ c' ++ inv s) ++ [-b]) := by
      have := e.symm.trans e'
      simpa using this
    injection q with q1 q2
    subst q1
    have q3 := List.append_cancel_right q2
    obtain ⟨x, y⟩ := rg_uniq (h := t) (h' := s) (w := t ++ c ++ inv t) ⟨rfl, k⟩ ⟨q3, k'⟩
    exact ⟨by rw [x], y⟩
theorem rg_red {w h c : List Int} (r : Rg w h c) (n : Nat) (hn : 1 ≤ n) (hw : Red w) : Red (h ++ pw c n ++ inv h) := by
  obtain ⟨e, k⟩ := r
  subst e
  have a : Red (h ++ c) := hw.left
  have b : Red (c ++ inv h) := by rw [List.append_assoc] at hw; exact hw.right
  have p := cyc_pw k n
  obtain ⟨m, rfl⟩ : ∃ m, n = m + 1 := ⟨n - 1, by omega⟩
  have a2 : Red (h ++ pw c (m + 1)) := by
    show Red (h ++ (c ++ pw c m))
    rw [← List.append_assoc]
    exact red_glue a p k.1
  have b2 : Red (pw c (m + 1) ++ inv h) := by
    have p' := p
    rw [pw_snoc] at p' ⊢
    exact red_glue p' b k.1
  exact red_glue a2 b2 (pw_ne k.1 (by omega))
theorem eqv_trans {u v w : List Int} (a : Eqv u v) (b : Eqv v w) : Eqv u w := fun s hs => (a s hs).trans (b s hs)
theorem eqv_symm {u v : List Int} (a : Eqv u v) : Eqv v u := fun s hs => (a s hs).symm
theorem eqv_pw {u v : List Int} (a : Eqv u v) : ∀ n, Eqv (pw u n) (pw v n)
  | 0 => eqv_refl _
  | n + 1 => a.cat (eqv_pw a n)
/-- a word led round, again and again -/
theorem eqv_led (h c : List Int) : ∀ n, Eqv (pw (h ++ c ++ inv h) (n + 1)) (h ++ pw c (n + 1) ++ inv h)
  | 0 => by simp only [pw, List.append_nil]; exact eqv_refl _
  | n + 1 => by
    have ih := eqv_led h c n
    have e1 : pw (h ++ c ++ inv h) (n + 1 + 1) = (h ++ c ++ inv h) ++ pw (h ++ c ++ inv h) (n + 1) := rfl
    rw [e1]
    refine eqv_trans ((eqv_refl _).cat ih) ?_
    have e2 : (h ++ c ++ inv h) ++ (h ++ pw c (n + 1) ++ inv h) = (h ++ c) ++ ((inv h ++ h) ++ (pw c (n + 1) ++ inv h)) := by simp
    have e3 : h ++ pw c (n + 1 + 1) ++ inv h = (h ++ c) ++ ([] ++ (pw c (n + 1) ++ inv h)) := by
      rw [show pw c (n + 1 + 1) = c ++ pw c (n + 1) from rfl]
      simp
    rw [e2, e3]
    exact (eqv_refl _).cat ((eqv_inv' h).cat (eqv_refl _))
theorem rg_pw {w h c : List Int} (r : Rg w h c) (hw : Red w) {n : Nat} (hn : 1 ≤ n) : red (pw w n) = h ++ pw c n ++ inv h ∧ Rg (red (pw w n)) h (pw c n) := by
  obtain ⟨m, rfl⟩ : ∃ m, n = m + 1 := ⟨n - 1, by omega⟩
  have R := rg_red r (m + 1) hn hw
  obtain ⟨e, k⟩ := r
  have E := (eqv_led h c m).red
  rw [← e, red_self R] at E
  exact ⟨E, E, cyc_pw' k hn⟩
/-- r is the root of w, w is n times r -/
def Rt (w r : List Int) (n : Nat) : Prop := ∃ h c l, Rg w h c ∧ IsLp c l ∧ r = h ++ c.take l ++ inv h ∧ n = c.length / l
theorem rt_pos {w r : List Int} {n : Nat} (a : Rt w r n) : 1 ≤ n := by
  obtain ⟨h, c, l, g, p, _, rfl⟩ := a
  exact Nat.div_pos p.1.2.1 p.1.1
theorem per_take {c : List Int} {l m : Nat} (hc : c ≠ []) (h : Per c l) (h2 : Per (c.take l) m) : Per c m := by
  obtain ⟨d1, a1⟩ := per_at h
  obtain ⟨d2, a2⟩ := per_at h2
  have hl : (c.take l).length = l := by rw [List.length_take]; have := h.2.1; omega
  have hp : c.take l ≠ [] := fun e => by rw [e] at hl; have := h.1; simp at hl; omega
  have hn : 1 ≤ c.length / l := Nat.div_pos h.2.1 h.1
  rw [hl] at d2
  refine at_per hc (Nat.dvd_trans d2 d1) fun i => ?_
  have e : ∀ i, at_ c i = at_ (c.take l) i := fun i => by
    have := at_pw hp hn i
    rw [← h.2.2] at this
    exact this
  rw [e, e, a2]
theorem rt_root {w r : List Int} {n : Nat} (a : Rt w r n) (hw : Red w) : Red r ∧ Rt r r 1 ∧ red (pw r n) = w := by
  have hn := rt_pos a
  obtain ⟨h, c, l, g, p, rfl, rfl⟩ := a
  have hl : (c.take l).length = l := by rw [List.length_take]; have := p.1.2.1; omega
  have hp : c.take l ≠ [] := fun e => by rw [e] at hl; have := p.1.1; simp at hl; omega
  have E := p.1.2.2
  have hc : Cyc (c.take l) := by
    refine ⟨hp, ?_⟩
    have k := g.2.2
    obtain ⟨m, q⟩ : ∃ m, c.length / l = m + 1 := ⟨c.length / l - 1, by omega⟩
    rw [q] at E
    generalize c.take l = p at E
    rw [E] at k
    cases m with
    | zero => simpa [pw] using k
    | succ m =>
      have k2 := k.left
      rw [show pw p (m + 1 + 1) = p ++ (p ++ pw p m) from rfl, ← List.append_assoc] at k2
      exact k2.left
  have R : Red (h ++ c.take l ++ inv h) := by
    have e := g.1
    have k1 : Red (h ++ c.take l) := by
      have : Red (h ++ (c.take l ++ c.drop l)) := by rw [List.take_append_drop]; rw [e] at hw; exact hw.left
      rw [← List.append_assoc] at this
      exact this.left
    have k2 : Red (c.take l ++ inv h) := by
      obtain ⟨m, q⟩ : ∃ m, c.length / l = m + 1 := ⟨c.length / l - 1, by omega⟩
      rw [q, pw_snoc] at E
      have : Red (c ++ inv h) := by rw [e, List.append_assoc] at hw; exact hw.right
      generalize c.take l = p at E ⊢
      rw [E, List.append_assoc] at this
      exact this.right
    exact red_glue k1 k2 hp
  have G : Rg (h ++ c.take l ++ inv h) h (c.take l) := ⟨rfl, hc⟩
  refine ⟨R, ⟨h, c.take l, l, G, ⟨?_, fun m hm => p.2 m (per_take g.2.1 p.1 hm)⟩, ?_, ?_⟩, ?_⟩
  · have := per_self hp
    rw [hl] at this
    exact this
  · rw [List.take_take, Nat.min_self]
  · rw [hl, Nat.div_self p.1.1]
  · rw [(rg_pw G R hn).1, ← E]
    exact g.1.symm
/-! ### there is one -/
theorem red_mid {a b : Int} {m : List Int} (h : Red (a :: m ++ [b])) : Red m := by
  have : Red (m ++ [b]) := h.tail
  exact this.left
theorem cyc_of {a b : Int} {m : List Int} (h : Red (a :: m ++ [b])) (k : a + b ≠ 0) : Cyc (a :: m ++ [b]) := by
  refine ⟨by simp, ?_⟩
  have : Red ((a :: m) ++ b :: (a :: m ++ [b])) := red_cat _ h (fun c r q => by cases q; omega) h
  simpa using this
theorem cyc_one {a : Int} (h : a ≠ 0) : Cyc [a] := ⟨by simp, (by omega : a + a ≠ 0), trivial⟩
theorem rg_step {h m : List Int} {a b : Int} (k : a + b = 0) : h ++ (a :: m ++ [b]) ++ inv h = (h ++ [a]) ++ m ++ inv (h ++ [a]) := by
  have : b = -a := by omega
  subst this
  rw [inv_append]
  simp [inv]
end FG

set_option maxHeartbeats 4000000
namespace FG
/-! # Led words, exponents -/
theorem red_idem (w : List Int) : red (red w) = red w := red_self (red_red w)
theorem red_of_eqv {u v : List Int} (h : Eqv u v) : red u = red v := h.red
/-- w led by g -/
def ledr (w g : List Int) : List Int := red (inv g ++ w ++ g)
theorem mem_push {s : List Int} {a x : Int} (h : x ∈ push s a) : x ∈ s ∨ x = a := by
  cases s with
  | nil => exact .inr (by simpa [push] using h)
  | cons b r =>
    rw [push_eq] at h
    split at h
    · exact .inl (List.mem_cons_of_mem _ h)
    · rcases List.mem_cons.mp h with h | h
      · exact .inr h
      · exact .inl h
theorem mem_stk : ∀ (w : List Int) {s : List Int} {x : Int}, x ∈ stk w s → x ∈ s ∨ x ∈ w
  | [], _, _, h => .inl h
  | a :: w, s, x, h => by
    rcases mem_stk w (s := push s a) h with h | h
    · rcases mem_push h with h | h
      · exact .inl h
      · exact .inr (by simp [h])
    · exact .inr (by simp [h])
/-- the letters of a reduced row are letters of the row -/
theorem mem_red {w : List Int} {x : Int} (h : x ∈ red w) : x ∈ w := by
  rcases mem_stk w (List.mem_reverse.mp h) with h | h
  · exact absurd h (by simp)
  · exact h
theorem push_len (s : List Int) (a : Int) : (push s a).length ≤ s.length + 1 := by
  cases s with
  | nil => simp [push]
  | cons b r =>
    rw [push_eq]
    split <;> simp <;> omega
theorem stk_len : ∀ (w s : List Int), (stk w s).length ≤ s.length + w.length
  | [], _ => Nat.le_refl _
  | a :: w, s => by
    have := stk_len w (push s a)
    have := push_len s a
    show (stk w (push s a)).length ≤ _
    rw [List.length_cons]
    omega
theorem red_len (w : List Int) : (red w).length ≤ w.length := by
  have := stk_len w []
  unfold red
  rw [List.length_reverse]
  simpa using this
theorem mem_inv {w : List Int} {x : Int} : x ∈ inv w ↔ -x ∈ w := by
  unfold inv
  rw [List.mem_reverse, List.mem_map]
  constructor
  · rintro ⟨a, h, rfl⟩
    rw [Int.neg_neg]
    exact h
  · exact fun h => ⟨-x, h, Int.neg_neg x⟩
/-! ### exponents -/
/-- the n-th power -/
def nth (o : List Int) (n : Nat) : List Int := red (pw o n)
/-- the law's way: all powers, one by one -/
def xl (w o : List Int) : Nat → Nat → Option Int
  | 0, _ => none
  | k + 1, m => if w = nth o (m + 1) ∨ w = nth (inv o) (m + 1) then some (if w = nth o (m + 1) then ((m + 1 : Nat) : Int) else 0 - ((m + 1 : Nat) : Int)) else if (nth o (m + 1)).length > w.length then none else xl w o k (m + 1)
/-- the program's way: by the roots -/
def xr (r s : List Int) (k q : Nat) : Option Int := if q = 0 ∨ ¬(r = s ∨ r = inv s) ∨ (k % q ≠ 0) then none else some (if r = s then ((k / q : Nat) : Int) else 0 - ((k / q : Nat) : Int))
/-! ### neighbours taken out -/
/-- where a letter stands ahead of its undoing -/
theorem red_out {u v : List Int} {a b : Int} (h : a + b = 0) : red (u ++ a :: b :: v) = red (u ++ v) := by
  have : b = -a := by omega
  subst this
  refine red_of_eqv ?_
  have := ((eqv_refl u).cat (eqv_inv [a])).cat (eqv_refl v)
  simpa [inv] using this
end FG

set_option maxHeartbeats 4000000
namespace FG
/-! # Words that commute -/
/-- alike as words of the group -/
theorem eqv_inv_of {u v : List Int} (h : Eqv u v) : Eqv (inv u) (inv v) := by
  refine eqv_trans (v := inv u ++ (v ++ inv v)) ?_ ?_
  · have := (eqv_refl (inv u)).cat (eqv_symm (eqv_inv v))
    rw [List.append_nil] at this
    exact this
  · rw [← List.append_assoc]
    have : Eqv (inv u ++ v) [] := eqv_trans ((eqv_refl _).cat (eqv_symm h)) (eqv_inv' _)
    have := this.cat (eqv_refl (inv v))
    rw [List.nil_append] at this
    exact this
end FG

set_option maxHeartbeats 4000000
namespace FG
/-! # Powers to any whole number -/
/-- s to the e -/
def zq (s : List Int) (e : Int) : List Int := pw (if 0 < e then s else inv s) e.natAbs
def zp (s : List Int) (e : Int) : List Int := red (zq s e)
/-- how a word stands to a word s: the exponent, none without one -/
def Ex (w s : List Int) (o : Option Int) : Prop := (w = [] ∧ o = some 0) ∨ ∃ r k, Rt w r k ∧ o = xr r s k 1
end FG

set_option maxHeartbeats 4000000
namespace FG
/-! # Words led to one another: the cores are turns -/
theorem stk_ci {u s : List Int} (hs : Red s) : stk (inv u) (stk u s) = s := by
  rw [← stk_append]
  exact eqv_inv u s hs
theorem stk_ic {u s : List Int} (hs : Red s) : stk u (stk (inv u) s) = s := by
  rw [← stk_append]
  exact eqv_inv' u s hs
theorem stk_r {u s : List Int} (hs : Red s) : stk (red u) s = stk u s := (eqv_red u s hs).symm
theorem ledr_red (w g : List Int) : ledr w (red g) = ledr w g := red_of_eqv fun s hs => by
  have e : ∀ t, Red t → stk (inv (red g)) t = stk (inv g) t := fun t ht => eqv_symm (eqv_inv_of (eqv_red g)) t ht
  simp (config := { maxDischargeDepth := 20 }) only [stk_append, stk_r, stk_red, hs, e]
/-- c' goes round c -/
def Rot (c c' : List Int) : Prop := ∃ a b, c = a ++ b ∧ c' = b ++ a
theorem Rot.refl (c : List Int) : Rot c c := ⟨[], c, rfl, (List.append_nil c).symm⟩
theorem Rot.symm {c d : List Int} (h : Rot c d) : Rot d c := let ⟨a, b, e, f⟩ := h; ⟨b, a, f, e⟩
theorem Rot.len {c d : List Int} (h : Rot c d) : c.length = d.length := by
  obtain ⟨a, b, rfl, rfl⟩ := h
  simp only [List.length_append]
  omega
theorem Rot.trans {c d e : List Int} (h : Rot c d) (k : Rot d e) : Rot c e := by
  obtain ⟨a, b, rfl, rfl⟩ := h
  obtain ⟨p, q, e1, rfl⟩ := k
  rcases List.append_eq_append_iff.mp e1 with ⟨t, rfl, rfl⟩ | ⟨t, rfl, rfl⟩
  · exact ⟨t, q ++ b, by simp, by simp⟩
  · exact ⟨a ++ p, t, by simp, by simp⟩
def rotB (c d : List Int) : Bool := decide (c.length = d.length) && (decide (c = []) || (List.range c.length).any fun k => decide (c.drop k ++ c.take k = d))
theorem rotB_iff {c d : List Int} : rotB c d = true ↔ Rot c d := by
  unfold rotB
  simp only [Bool.and_eq_true, Bool.or_eq_true, decide_eq_true_eq, List.any_eq_true, List.mem_range]
  constructor
  · rintro ⟨hl, rfl | ⟨k, hk, rfl⟩⟩
    · have : d = [] := List.eq_nil_of_length_eq_zero hl.symm
      subst this
      exact .refl _
    · exact ⟨c.take k, c.drop k, (List.take_append_drop k c).symm, rfl⟩
  · intro h
    refine ⟨h.len, ?_⟩
    by_cases hc : c = []
    · exact .inl hc
    refine .inr ?_
    obtain ⟨a, b, rfl, rfl⟩ := h
    by_cases hb : b = []
    · subst hb
      refine ⟨0, List.length_pos_iff.mpr hc, by simp⟩
    · refine ⟨a.length, ?_, by simp⟩
      have := List.length_pos_iff.mpr hb
      simp only [List.length_append]
      omega
/-- head and core, of the empty word, too -/
def Rgo (w h c : List Int) : Prop := (w = [] ∧ h = [] ∧ c = []) ∨ Rg w h c
theorem Rgo.eq {w h c : List Int} (r : Rgo w h c) : w = h ++ c ++ inv h := by
  rcases r with ⟨rfl, rfl, rfl⟩ | ⟨e, _⟩
  · rfl
  · exact e
theorem rg_ne {w h c : List Int} (r : Rg w h c) : w ≠ [] := fun z => by
  have e := r.1
  rw [z] at e
  have := r.2.1
  exact this (List.append_eq_nil_iff.mp (List.append_eq_nil_iff.mp e.symm).1).2
theorem Rgo.uniq {w h c h' c' : List Int} (r : Rgo w h c) (r' : Rgo w h' c') : h = h' ∧ c = c' := by
  rcases r with ⟨rfl, rfl, rfl⟩ | r
  · rcases r' with ⟨_, rfl, rfl⟩ | r'
    · exact ⟨rfl, rfl⟩
    · exact absurd rfl (rg_ne r')
  · rcases r' with ⟨rfl, _, _⟩ | r'
    · exact absurd rfl (rg_ne r)
    · exact rg_uniq r r'
/-- both ways round lead -/
theorem way_on {h l a b : List Int} (ho : Red (l ++ (b ++ a) ++ inv l)) : ledr (h ++ (a ++ b) ++ inv h) (red (h ++ a ++ inv l)) = l ++ (b ++ a) ++ inv l := by
  rw [ledr_red]
  refine (red_of_eqv (v := l ++ (b ++ a) ++ inv l) fun s hs => ?_).trans (red_self ho)
  simp (config := { maxDischargeDepth := 20 }) only [stk_append, inv_append, inv_inv, stk_ci, stk_ic, stk_red, hs]
theorem way_back {h l a b : List Int} (ho : Red (l ++ (b ++ a) ++ inv l)) : ledr (h ++ (a ++ b) ++ inv h) (red (h ++ inv b ++ inv l)) = l ++ (b ++ a) ++ inv l := by
  rw [ledr_red]
  refine (red_of_eqv (v := l ++ (b ++ a) ++ inv l) fun s hs => ?_).trans (red_self ho)
  simp (config := { maxDischargeDepth := 20 }) only [stk_append, inv_append, inv_inv, stk_ci, stk_ic, stk_red, hs]
/-! ## sums -/
def sm (i : Int) (w : List Int) : Int := (w.count i : Int) - (w.count (0 - i) : Int)
end FG

set_option maxHeartbeats 4000000
namespace DL
open PySem PySem.Spec PyProof.Rows L2
/-! # Comprehensions as filter and map -/
theorem lcL_gen {bind : FG} {ft : FT} {fe : FP} {e : En} {p : D → Bool} {f : D → D} : ∀ ds : List D, (∀ d ∈ ds, ∃ e1, bind d e = some e1 ∧ ft e1 = some (p d) ∧ (p d = true → ∃ r, fe e1 = some r ∧ r.item = some (f d))) → lcL bind ft fe e ds = some ((ds.filter p).map f)
  | [], _ => rfl
  | d :: ds, h => by
    have ih := lcL_gen ds fun x hx => h x (List.mem_cons_of_mem _ hx)
    obtain ⟨e1, h1, h2, h3⟩ := h d List.mem_cons_self
    unfold lcL
    rw [h1, Option.bind_some, h2, Option.bind_some, ih]
    cases hp : p d with
    | false =>
      rw [List.filter_cons_of_neg (by rw [hp]; decide)]
      rfl
    | true =>
      obtain ⟨r, h4, h5⟩ := h3 hp
      rw [List.filter_cons_of_pos hp, if_pos rfl, h4, Option.bind_some, h5]
      rfl
theorem lcL_all {bind : FG} {fe : FP} {e : En} {f : D → D} (ds : List D) (h : ∀ d ∈ ds, ∃ e1 r, bind d e = some e1 ∧ fe e1 = some r ∧ r.item = some (f d)) : lcL bind tAll fe e ds = some (ds.map f) := by
  have := lcL_gen (bind := bind) (ft := tAll) (fe := fe) (e := e) (p := fun _ => true) (f := f) ds fun d hd => by
    obtain ⟨e1, r, h1, h2, h3⟩ := h d hd
    exact ⟨e1, h1, rfl, fun _ => ⟨r, h2, h3⟩⟩
  rw [this, List.filter_eq_self.mpr fun _ _ => rfl]
/-- a comprehension over ints -/
theorem lcI_all {α : Type} {g : α → D} {h : α → D} {i : Nat} {fe : FP} {e : En} (hi : i < e.length) (as : List α) (hf : ∀ a ∈ as, ∃ r, fe (e.set i (some (.d (g a)))) = some r ∧ r.item = some (h a)) : lcL (gNm i) tAll fe e (as.map g) = some (as.map h) := by
  induction as with
  | nil => rfl
  | cons a as ih =>
    have ih := ih fun x hx => hf x (List.mem_cons_of_mem _ hx)
    obtain ⟨r, h1, h2⟩ := hf a List.mem_cons_self
    rw [List.map_cons, List.map_cons]
    unfold lcL
    rw [ih, show gNm i (g a) e = some (e.set i (some (.d (g a)))) from if_pos hi, Option.bind_some, show tAll (e.set i (some (.d (g a)))) = some true from rfl, Option.bind_some, if_pos rfl, h1, Option.bind_some, h2]
    rfl
theorem lcI_some {α : Type} {g : α → D} {h : α → D} {p : α → Bool} {i : Nat} {ft : FT} {fe : FP} {e : En} (hi : i < e.length) (as : List α) (ht : ∀ a ∈ as, ft (e.set i (some (.d (g a)))) = some (p a)) (hf : ∀ a ∈ as, p a = true → ∃ r, fe (e.set i (some (.d (g a)))) = some r ∧ r.item = some (h a)) :
    lcL (gNm i) ft fe e (as.map g) = some ((as.filter p).map h) := by
  induction as with
  | nil => rfl
  | cons a as ih =>
    have ih := ih (fun x hx => ht x (List.mem_cons_of_mem _ hx)) fun x hx => hf x (List.mem_cons_of_mem _ hx)
    have h1 := ht a List.mem_cons_self
    rw [List.map_cons]
    unfold lcL
    rw [ih, show gNm i (g a) e = some (e.set i (some (.d (g a)))) from if_pos hi, Option.bind_some, h1, Option.bind_some]
    cases hp : p a with
    | false =>
      rw [List.filter_cons_of_neg (by rw [hp]; decide)]
      rfl
    | true =>
      obtain ⟨r, h2, h3⟩ := hf a List.mem_cons_self hp
      rw [List.filter_cons_of_pos hp, if_pos rfl, h2, Option.bind_some, h3]
      rfl
theorem lcA_some {α : Type} {g : α → D} {h : α → D} {p : α → Bool} {bind : FG} {ft : FT} {fe : FP} {e : En} {E : α → En} (as : List α) (hb : ∀ a ∈ as, bind (g a) e = some (E a)) (ht : ∀ a ∈ as, ft (E a) = some (p a)) (hf : ∀ a ∈ as, p a = true → ∃ r, fe (E a) = some r ∧ r.item = some (h a)) :
    lcL bind ft fe e (as.map g) = some ((as.filter p).map h) := by
  induction as with
  | nil => rfl
  | cons a as ih =>
    have ih := ih (fun x hx => hb x (List.mem_cons_of_mem _ hx)) (fun x hx => ht x (List.mem_cons_of_mem _ hx)) fun x hx => hf x (List.mem_cons_of_mem _ hx)
    have h1 := ht a List.mem_cons_self
    rw [List.map_cons]
    unfold lcL
    rw [ih, hb a List.mem_cons_self, Option.bind_some, h1, Option.bind_some]
    cases hp : p a with
    | false =>
      rw [List.filter_cons_of_neg (by rw [hp]; decide)]
      rfl
    | true =>
      obtain ⟨r, h2, h3⟩ := hf a List.mem_cons_self hp
      rw [List.filter_cons_of_pos hp, if_pos rfl, h2, Option.bind_some, h3]
      rfl
theorem asg_fz {f : FP} {g : FG} {e e2 : En} {x : D} (h : f e = some (.fz x)) (h2 : g x e = some e2) : sAsg (mPP f) g e = .nx e2 := by
  unfold sAsg mPP
  rw [h]
  show (match g x e with
    | some e2 => Fl.nx e2
    | none => Fl.stuck) = _
  rw [h2]
/-- a list made into an owned name -/
theorem setO_fr {f : FP} {e : En} {xs : List D} {i : Nat} (h : f e = some (.fr xs)) (hi : i < e.length) : sSetO i (mPP f) e = .nx (e.set i (some (.lst xs))) := by unfold sSetO mPP; rw [h]; exact if_pos hi
theorem rangeD0 (n : Nat) : rangeD 0 n = (List.range n).map fun (i : Nat) => D.int (i : Nat) := by
  unfold rangeD
  refine List.map_congr_left fun i _ => ?_
  rw [Int.zero_add]
theorem pLc_fr {vs : List Nat} {fi : FI} {bind : FG} {ft : FT} {fe : FP} {e : En} {ds xs : List D} {b : Bool} (h : fi e = some (ds, b)) (h2 : lcL bind ft fe (wipeE e vs) ds = some xs) (hz : xs.length ≤ 1000) : pLc vs fi bind ft fe e = some (.fr xs) := pLc_ok h h2 (by unfold SZ; omega)
theorem pAnd_ok {fa fb : FP} {e : En} {a b : Bool} (h : fa e = some (.fz (.bl a))) (h2 : a = true → fb e = some (.fz (.bl b))) : pAnd fa fb e = some (.fz (.bl (a && b))) := by
  cases a with
  | false => exact pAnd_f h
  | true => rw [pAnd_t h, h2 rfl]; rfl
theorem tOr_ok {fa fb : FT} {e : En} {a b : Bool} (h : fa e = some a) (h2 : a = false → fb e = some b) : tOr fa fb e = some (a || b) := by
  unfold tOr
  rw [h]
  cases a with
  | true => rfl
  | false => exact h2 rfl
theorem tAnd_ok {fa fb : FT} {e : En} {a b : Bool} (h : fa e = some a) (h2 : a = true → fb e = some b) : tAnd fa fb e = some (a && b) := by
  unfold tAnd
  rw [h]
  cases a with
  | false => rfl
  | true => exact h2 rfl
theorem tNot_ok {fa : FT} {e : En} {b : Bool} (h : fa e = some b) : tNot fa e = some (!b) := by unfold tNot; rw [h]; rfl
theorem pN {e : En} {i : Nat} {d : D} (h : e[i]? = some (some (.d d))) : pName i e = some (.fz d) := by unfold pName; rw [h]
theorem pNl {e : En} {i : Nat} {xs : List D} (h : e[i]? = some (some (.lst xs))) : pName i e = some (.ow xs) := by unfold pName; rw [h]
theorem call1 {F : List S → Out} {fa : FP} {e e' : En} {a x : D} (ha : fa e = some (.fz a)) (h : F [.d a] = .ok (.d x) e') : pFd F (aCons fa aNil) e = some (.fz x) := (pFd_ok (aCons_ok (rs := []) ha rfl)).trans (callP_fz h (.inl rfl))
theorem call2 {F : List S → Out} {fa fb : FP} {e e' : En} {a b x : D} (ha : fa e = some (.fz a)) (hb : fb e = some (.fz b)) (h : F [.d a, .d b] = .ok (.d x) e') : pFd F (aCons fa (aCons fb aNil)) e = some (.fz x) := (pFd_ok (aCons_ok ha (aCons_ok (rs := []) hb rfl))).trans (callP_fz h (.inl rfl))
/-- of a list made at once -/
theorem call1r {F : List S → Out} {fa : FP} {e e' : En} {xs : List D} {x : D} (ha : fa e = some (.fr xs)) (h : F [.d (.lst xs)] = .ok (.d x) e') : pFd F (aCons fa aNil) e = some (.fz x) := (pFd_ok (aCons_ok (rs := []) ha rfl)).trans (callP_fz h (.inl rfl))
theorem forL_nx {bind : FG} {fb : FS} {d : D} {ds : List D} {e e1 e2 : En} (h : bind d e = some e1) (h2 : fb e1 = .nx e2) : forL bind fb (d :: ds) e = forL bind fb ds e2 := by
  show (match bind d e with
    | none => Fl.stuck
    | some e1 => match fb e1 with
      | .nx e2 => forL bind fb ds e2
      | .ct e2 => forL bind fb ds e2
      | .bk e2 => .nx e2
      | o => o) = _
  rw [h]
  show (match fb e1 with
      | .nx e2 => forL bind fb ds e2
      | .ct e2 => forL bind fb ds e2
      | .bk e2 => .nx e2
      | o => o) = _
  rw [h2]
theorem forL_rt {bind : FG} {fb : FS} {d : D} {ds : List D} {e e1 e2 : En} {s : S} (h : bind d e = some e1) (h2 : fb e1 = .rt s e2) : forL bind fb (d :: ds) e = .rt s e2 := by
  show (match bind d e with
    | none => Fl.stuck
    | some e1 => match fb e1 with
      | .nx e2 => forL bind fb ds e2
      | .ct e2 => forL bind fb ds e2
      | .bk e2 => .nx e2
      | o => o) = _
  rw [h]
  show (match fb e1 with
      | .nx e2 => forL bind fb ds e2
      | .ct e2 => forL bind fb ds e2
      | .bk e2 => .nx e2
      | o => o) = _
  rw [h2]
theorem pLst_ok {fs : FA} {e : En} {rs : List RV} {xs : List D} (h : fs e = some rs) (h2 : items rs = some xs) (hz : xs.length ≤ 1000) : pLst fs e = some (.fr xs) := by
  unfold pLst
  rw [h, Option.bind_some, h2, Option.bind_some]
  exact if_pos (by unfold SZ; omega)
theorem pTup_ok {fs : FA} {e : En} {rs : List RV} {xs : List D} (h : fs e = some rs) (h2 : items rs = some xs) (hz : xs.length ≤ 1000) : pTup fs e = some (.fz (.tup xs)) := by
  unfold pTup
  rw [h, Option.bind_some, h2, Option.bind_some]
  exact if_pos (by unfold SZ; omega)
theorem lCons_m {f : FM} {fs : FL} {e e1 e' : En} {x : D} {xs : List D} (h : f e = .ok (.d x) e1) (h2 : fs e1 = .ok xs e') : lCons f fs e = .ok (x :: xs) e' := by
  unfold lCons
  rw [h]
  show OL.cons x (fs e1) = _
  rw [h2]
  rfl
theorem mLst_ok {fs : FL} {e e' : En} {xs : List D} (h : fs e = .ok xs e') (hz : xs.length ≤ 1000) : mLst fs e = .ok (.lst xs) e' := by
  unfold mLst
  rw [h]
  show rvO (if xs.length ≤ SZ then some (.fr xs) else none) e' = _
  rw [if_pos (by unfold SZ; omega)]
  rfl
/-! # sorted by a key: the first one is one of them -/
end DL

set_option maxHeartbeats 4000000
namespace FG
/-! # Turns of a ring -/
def turn (c : List Int) (k : Nat) : List Int := c.drop k ++ c.take k
theorem turn_len (c : List Int) {k : Nat} (h : k ≤ c.length) : (turn c k).length = c.length := by
  unfold turn
  rw [List.length_append, List.length_drop, List.length_take]
  omega
theorem at_turn {c : List Int} {k : Nat} (hk : k ≤ c.length) (hc : c ≠ []) (i : Nat) : at_ (turn c k) i = at_ c (i + k) := by
  have n0 := List.length_pos_iff.mpr hc
  unfold at_
  rw [turn_len c hk]
  have hj := Nat.mod_lt i n0
  have e : (i + k) % c.length = (i % c.length + k) % c.length := by rw [Nat.mod_add_mod]
  rw [e]
  generalize i % c.length = j at hj
  unfold turn
  rw [List.getD_eq_getElem?_getD, List.getD_eq_getElem?_getD]
  by_cases h : j < c.length - k
  · rw [List.getElem?_append_left (by rw [List.length_drop]; exact h), List.getElem?_drop, Nat.mod_eq_of_lt (by omega), Nat.add_comm]
  · rw [List.getElem?_append_right (by rw [List.length_drop]; omega), List.length_drop, List.getElem?_take_of_lt (by omega)]
    have : (j + k) % c.length = j - (c.length - k) := by
      by_cases z : k = c.length
      · subst z
        rw [Nat.add_mod_right, Nat.mod_eq_of_lt hj]
        omega
      · rw [Nat.mod_eq_sub_mod (by omega), Nat.mod_eq_of_lt (by omega)]
        omega
    rw [this]
theorem ext_at {c d : List Int} (hl : c.length = d.length) (h : ∀ i, at_ c i = at_ d i) : c = d := by
  refine List.ext_getElem hl fun i h1 h2 => ?_
  rw [← at_lt h1, ← at_lt h2]
  exact h i
theorem at_n (c : List Int) (i : Nat) : at_ c (i + c.length) = at_ c i := by
  unfold at_
  rw [Nat.add_mod_right]
theorem turn_mod {c : List Int} {l k : Nat} (hc : c ≠ []) (h : Per c l) (hk : k ≤ c.length) : turn c k = turn c (k % l) := by
  have hl := h.2.1
  have hm : k % l ≤ c.length := Nat.le_trans (Nat.le_of_lt (Nat.mod_lt k h.1)) hl
  refine ext_at (by rw [turn_len c hk, turn_len c hm]) fun i => ?_
  rw [at_turn hk hc, at_turn hm hc]
  have q := at_mul (per_at h).2 (k / l) (i + k % l)
  have e : i + k % l + k / l * l = i + k := by
    have := Nat.mod_add_div k l
    rw [Nat.mul_comm] at this
    omega
  rw [e] at q
  exact q
theorem turn_ne {c : List Int} {l k m : Nat} (hc : c ≠ []) (h : IsLp c l) (hkm : k < m) (hm : m < l) : turn c k ≠ turn c m := fun z => by
  have hl := h.1.2.1
  have a : ∀ i, at_ c (i + k) = at_ c (i + m) := fun i => by rw [← at_turn (by omega) hc, ← at_turn (by omega) hc, z]
  have b : ∀ i, at_ c (i + (m - k)) = at_ c i := fun i => by
    have q := a (i + (c.length - k))
    rw [show i + (c.length - k) + k = i + c.length by omega, show i + (c.length - k) + m = i + (m - k) + c.length by omega, at_n, at_n] at q
    exact q.symm
  have g := at_gcd ((m - k) + c.length) (m - k) c.length (Nat.le_refl _) b (at_n c)
  have p := at_per hc (Nat.gcd_dvd_right (m - k) c.length) g
  have q := h.2 _ p
  have r := Nat.gcd_le_left c.length (show 0 < m - k by omega)
  omega
/-- powers: the head with the core's powers -/
theorem rgo_pow {w h c : List Int} (R : Rgo w h c) (hw : Red w) (hc : c ≠ []) {n : Nat} (hn : 1 ≤ n) : red (pw w n) = h ++ pw c n ++ inv h := by
  rcases R with ⟨_, _, z⟩ | R
  · exact absurd z hc
  · exact (rg_pw R hw hn).1
theorem rgo_inv {w h c : List Int} (R : Rgo w h c) : Rgo (inv w) h (inv c) := by
  rcases R with ⟨rfl, rfl, rfl⟩ | ⟨e, k⟩
  · exact .inl ⟨rfl, rfl, rfl⟩
  · refine .inr ⟨?_, cyc_inv k⟩
    rw [e, inv_append, inv_append, inv_inv, List.append_assoc]
theorem rgo_core {w h c : List Int} (R : Rgo w h c) : (c = [] ↔ w = []) := by
  rcases R with ⟨rfl, _, rfl⟩ | R
  · exact ⟨fun _ => rfl, fun _ => rfl⟩
  · exact ⟨fun z => absurd z R.2.1, fun z => absurd z (rg_ne R)⟩
/-- the ends of a word -/
def endsB (w : List Int) : Bool := match w with
  | [] => true
  | a :: _ => decide (a + w.getLastD 0 ≠ 0)
end FG

set_option maxHeartbeats 4000000
namespace DL
open PySem PySem.Spec PyProof.Rows L2
/-! # walks: checks, loops, shown things (no law in sight) -/
theorem ckF {t : FT} {e : En} (h : t e = some false) : sIf (tMT t) (sRet (mPP (pCon (.bl false)))) sNil e = .nx e := (if_f h).trans rfl
theorem ne_same {x : D} (n : x.nice = true) (d : x.dep ≤ 64) : gNe x x = some (.fz (.bl false)) := by rw [gNe_nice n n d d, eqb_refl n]; rfl
theorem ne_f {f g : FP} {e : En} {a b : RV} (hf : f e = some a) (hg : g e = some b) (h : a.view = b.view) (n : a.view.nice = true) (d : a.view.dep ≤ 64) : tVal (p2 gNe f g) e = some false :=
  tVal_ok ((p2_ok hf hg).trans (by rw [← h]; exact ne_same n d))
theorem repr_fr {f : FP} {e : En} {xs : List D} (h : f e = some (.fr xs)) (n : niceL xs = true) (d : depL xs ≤ 60) (s : sizeL xs ≤ 8000) : pCa gRepr (aCons f aNil) e = some (.fz (.str (D.lst xs).py.shown)) := (pCa_ok (aCons_ok (rs := []) h rfl)).trans (repr_lst n d s)
/-- two shown things that are one -/
theorem shown_f {f g : FP} {e : En} {xs : List D} (hf : f e = some (.fz (.str (D.lst xs).py.shown))) (hg : g e = some (.fz (.str (D.lst xs).py.shown))) (n : niceL xs = true) : tVal (p2 gNe f g) e = some false :=
  tVal_ok ((p2_ok hf hg).trans (shown_ne_same (x := .lst xs) n))
theorem forL_any {bind : FG} {fb : FS} {I : En → Prop} : ∀ (ds : List D), (∀ d ∈ ds, ∀ e, I e → ∃ e1 e2, bind d e = some e1 ∧ fb e1 = .nx e2 ∧ I e2) → ∀ e, I e → ∃ e', forL bind fb ds e = .nx e' ∧ I e'
  | [], _, e, h => ⟨e, rfl, h⟩
  | d :: ds, hb, e, h => by
    obtain ⟨e1, e2, h1, h2, h3⟩ := hb d List.mem_cons_self e h
    obtain ⟨e', h4, h5⟩ := forL_any ds (fun x hx => hb x (List.mem_cons_of_mem _ hx)) e2 h3
    exact ⟨e', (forL_nx h1 h2).trans h4, h5⟩
theorem for_any {fi : FI} {bind : FG} {fb : FS} {I : En → Prop} {e : En} {ds : List D} (hs : fi e = some (ds, true)) (hb : ∀ d ∈ ds, ∀ e, I e → ∃ e1 e2, bind d e = some e1 ∧ fb e1 = .nx e2 ∧ I e2) (h : I e) : ∃ e', sFor fi bind fb e = .nx e' ∧ I e' := by
  obtain ⟨e', h1, h2⟩ := forL_any ds hb e h
  refine ⟨e', ?_, h2⟩
  unfold sFor
  rw [hs]
  exact h1
theorem lc_true {bind : FG} {P : FP} {e : En} (ds : List D) (h : ∀ d ∈ ds, ∃ e1, bind d e = some e1 ∧ P e1 = some (.fz (.bl true))) : lcL bind tAll P e ds = some (ds.map fun _ => D.bl true) :=
  lcL_all (f := fun _ => D.bl true) ds fun d hd => let ⟨e1, a, b⟩ := h d hd; ⟨e1, _, a, b, rfl⟩
theorem bls_true : ∀ ds : List D, bls? (ds.map fun _ => D.bl true) = some (ds.map fun _ => true)
  | [] => rfl
  | d :: ds => by
    show (bls? (ds.map fun _ => D.bl true)).map (true :: ·) = _
    rw [bls_true ds]
    rfl
theorem gAll_t (ds : List D) : gAll [.lst (ds.map fun _ => D.bl true)] = some (.fz (.bl true)) := by
  show (bls? (ds.map fun _ => D.bl true)).map (fun bs => RV.fz (.bl (bs.all id))) = _
  rw [bls_true]
  show some (RV.fz (.bl ((ds.map fun _ => true).all id))) = _
  congr 3
  rw [List.all_map]
  exact List.all_eq_true.mpr fun _ _ => rfl
theorem allP_ok {vs : List Nat} {bind : FG} {P : FP} {fi : FI} {e : En} {ds : List D} {b : Bool} (hs : fi e = some (ds, b)) (hz : ds.length ≤ 10000) (h : ∀ d ∈ ds, ∃ e1, bind d (wipeE e vs) = some e1 ∧ P e1 = some (.fz (.bl true))) : pCa gAll (aCons (pLc vs fi bind tAll P) aNil) e = some (.fz (.bl true)) := by
  have q : pLc vs fi bind tAll P e = some (.fr (ds.map fun _ => D.bl true)) := pLc_ok hs (lc_true ds h) (by rw [List.length_map]; unfold SZ; omega)
  exact (pCa_ok (aCons_ok (rs := []) q rfl)).trans (gAll_t ds)
theorem allT_ok {vs : List Nat} {bind : FG} {P : FP} {fi : FI} {e : En} {ds : List D} {b : Bool} (hs : fi e = some (ds, b)) (hz : ds.length ≤ 10000) (h : ∀ d ∈ ds, ∃ e1, bind d (wipeE e vs) = some e1 ∧ P e1 = some (.fz (.bl true))) : tVal (pCa gAll (aCons (pLc vs fi bind tAll P) aNil)) e = some true := tVal_ok (allP_ok hs hz h)
/-! ## effects -/
theorem mpp_fz {f : FP} {e : En} {x : D} (h : f e = some (.fz x)) : mPP f e = .ok (.d x) e := by unfold mPP; rw [h]; rfl
theorem m2_fz {g : D → D → Option RV} {fa fb : FM} {e e1 e2 : En} {s t : S} {x : D} (h : fa e = .ok s e1) (h2 : fb e1 = .ok t e2) (h3 : g s.view t.view = some (.fz x)) : m2 g fa fb e = .ok (.d x) e2 := by
  simp only [m2, h, Out.bind, h2, h3, rvO]
end DL

set_option maxHeartbeats 0
namespace G76
open PySem PySem.Spec PyProof.Rows L2 DL
/-! ## mirrors -/
def FUEL : Nat := 1000000
def cmTooMany (x : Str) : Option Bool := if x = "TooMany" then some true else none
def B_is_integer : FS := (sRet (mPP (pAnd (pIsi .int (pName 0)) (pNot (pIsi .bool (pName 0))))))
def F_is_integer : List S → Out := fnF 1 [] B_is_integer
def B_want_at_most : FS := (sIf (tMT (tVal (p2 gGt (pName 2) (pName 1)))) (sRaise2 "TooMany" "what" "limit" (lCons (mPP (pName 0)) (lCons (mPP (pName 1)) lNil))) sNil)
def F_want_at_most : List S → Out := fnF 3 [] B_want_at_most
def B_is_reduced : FS := (sRet (mPP (pCa gAll (aCons (pLc [1, 2] (iZip (aCons (pName 0) (aCons (pSl (pName 0) (oSome (pCon (.int 1))) oNone) aNil))) (gTp 2 (gsCons (gNm 1) (gsCons (gNm 2) gsNil))) tAll (p2 gNe (p2 gAdd (pName 1) (pName 2)) (pCon (.int 0)))) aNil))))
def F_is_reduced : List S → Out := fnF 3 [] B_is_reduced
def B_letters_of : FS := (sSeq (sSetO 1 (mPP (pLst aNil))) (sSeq (sFor (iRg2 (aCons (pCon (.int 1)) (aCons (p2 gAdd (pName 0) (pCon (.int 1))) aNil))) (gNm 2) (sExpr (mMt 1 gExt (mPP (pLst (aCons (pName 2) (aCons (p2 gSub (pCon (.int 0)) (pName 2)) aNil))))))) (sRetMv 1)))
def F_letters_of : List S → Out := fnF 3 [] B_letters_of
def B_reduced_of : FS := (sSeq (sSetO 1 (mPP (pLst aNil))) (sSeq (sFor (iSeq (pName 0)) (gNm 2) (sIf (tMT (tAnd (tVal (p2 gNe (pName 1) (pLst aNil))) (tVal (p2 gEq (p2 gAdd (p2 gIx (pName 1) (p1 gNeg (pCon (.int 1)))) (pName 2)) (pCon (.int 0)))))) (sExpr (chg0 1 gPop)) (sExpr (mMt 1 gApp (mPP (pName 2)))))) (sRet (mPP (pCa gTuple (aCons (pName 1) aNil))))))
def F_reduced_of : List S → Out := fnF 3 [] B_reduced_of
def B_undone_of : FS := (sRet (mPP (pCa gTuple (aCons (pLc [1] (iSeq (pRev (pName 0))) (gNm 1) tAll (p2 gSub (pCon (.int 0)) (pName 1))) aNil))))
def F_undone_of : List S → Out := fnF 2 [] B_undone_of
def B_many_words : FS := (sSeq (sSet 2 (mPP (pIf (tVal (p2 gEq (pName 1) (pCon (.int 0)))) (pCon (.int 1)) (p2 gMul (pCon (.int 2)) (pName 0))))) (sSeq (sFor (iRg2 (aCons (pCon (.int 1)) (aCons (pName 1) aNil))) (gNm 3) (sSet 2 (mPP (p2 gMul (pName 2) (p2 gSub (p2 gMul (pCon (.int 2)) (pName 0)) (pCon (.int 1))))))) (sRet (mPP (pName 2)))))
def F_many_words : List S → Out := fnF 4 [] B_many_words
def B_letters_as_images : FS := (sRet (mPP (pTup (aCons (pCon (.str "images")) (aCons (pName 0) (aCons (pName 0) (aCons (pCa gTuple (aCons (pLc [1] (iRg2 (aCons (pCon (.int 1)) (aCons (p2 gAdd (pName 0) (pCon (.int 1))) aNil))) (gNm 1) tAll (pTup (aCons (pName 1) aNil))) aNil)) aNil)))))))
def F_letters_as_images : List S → Out := fnF 2 [] B_letters_as_images
def B__law_pot : FS := (sSeq (sSet 2 (mPP (pIf (tVal (p2 gLt (pName 1) (pCa gLen (aCons (pName 0) aNil)))) (pCa gAbs (aCons (p2 gIx (pName 0) (pName 1)) aNil)) (p2 gAdd (p2 gMul (pCon (.int 2789)) (pName 1)) (pCon (.int 1861)))))) (sRet (mPP (pLst (aCons (pCa gMax2 (aCons (pCon (.int 0)) (aCons (p2 gSub (pName 2) (p2 gPow (pCon (.int 10)) (pCon (.int 18)))) aNil))) (aCons (p2 gAdd (p2 gMod (pCa gInt (aCons (p2 gAdd (p2 gAdd (p2 gMul (p2 gMod (pCa gInt (aCons (pName 2) aNil)) (pCon (.int 2147483549))) (pCon (.int 40014))) (p2 gMul (pCon (.int 7499)) (pName 1))) (pCon (.int 1367))) aNil)) (pCon (.int 2147483563))) (pCon (.int 1))) aNil))))))
def F__law_pot : List S → Out := fnF 3 [] B__law_pot
def B__law_draw : FS := (sSeq (sIf (tMT (tVal (p2 gGt (p2 gIx (pName 0) (pCon (.int 0))) (pCon (.int 0))))) (sSeq (sAsg (mPP (pCa gDivmod (aCons (p2 gIx (pName 0) (pCon (.int 0))) (aCons (pName 1) aNil)))) (gTp 2 (gsCons (gSet 0 (pCon (.int 0))) (gsCons (gNm 2) gsNil)))) (sRet (mPP (pName 2)))) sNil) (sSeq (sAsg (mPP (p2 gMod (pCa gInt (aCons (p2 gAdd (p2 gMul (p2 gIx (pName 0) (pCon (.int 1))) (pCon (.int 40692))) (pCon (.int 10597))) aNil)) (pCon (.int 2147483563)))) (gSet 0 (pCon (.int 1)))) (sRet (mPP (p2 gMod (pCa gInt (aCons (p2 gFdiv (p2 gMod (pCa gInt (aCons (p2 gMul (p2 gIx (pName 0) (pCon (.int 1))) (p2 gIx (pName 0) (pCon (.int 1)))) aNil)) (pCon (.int 2147483549))) (pCon (.int 19))) aNil)) (pName 1))))))
def F__law_draw : List S → Out := fnF 3 [0] B__law_draw
def B__law_reduced : FS := (sSeq (sSetO 1 (mPP (pLst aNil))) (sSeq (sFor (iSeq (pName 0)) (gNm 2) (sIf (tMT (tAnd (tVal (p2 gNe (pName 1) (pLst aNil))) (tVal (p2 gEq (p2 gAdd (p2 gIx (pName 1) (p1 gNeg (pCon (.int 1)))) (pName 2)) (pCon (.int 0)))))) (sExpr (chg0 1 gPop)) (sExpr (mMt 1 gApp (mPP (pName 2)))))) (sRet (mPP (pCa gTuple (aCons (pName 1) aNil))))))
def F__law_reduced : List S → Out := fnF 3 [] B__law_reduced
def B__law_undone : FS := (sRet (mPP (pCa gTuple (aCons (pLc [1] (iSeq (pRev (pName 0))) (gNm 1) tAll (p2 gSub (pCon (.int 0)) (pName 1))) aNil))))
def F__law_undone : List S → Out := fnF 2 [] B__law_undone
def B__law_letters : FS := (sRet (mPP (p2 gAdd (pLr2 (pCon (.int 1)) (p2 gAdd (pName 0) (pCon (.int 1)))) (pLc [1] (iRg2 (aCons (pCon (.int 1)) (aCons (p2 gAdd (pName 0) (pCon (.int 1))) aNil))) (gNm 1) tAll (p2 gSub (pCon (.int 0)) (pName 1))))))
def F__law_letters : List S → Out := fnF 2 [] B__law_letters
def B__law_common : FS := (sSeq (sPar 2 3 (arFz (mPP (pName 0)) (arFz (mPP (pName 1)) arNil))) (sSeq (whileF (tMT (tVal (p2 gGt (pName 3) (pCon (.int 0))))) (sPar 2 3 (arFz (mPP (pName 3)) (arFz (mPP (pCa gInt (aCons (p2 gMod (pName 2) (pName 3)) aNil))) arNil))) FUEL) (sRet (mPP (p2 gFdiv (p2 gMul (pName 0) (pName 1)) (pName 2))))))
def F__law_common : List S → Out := fnF 4 [] B__law_common
def B_is_count : FS := (sRet (mPP (pAnd (pFd F_is_integer (aCons (pName 0) aNil)) (p2 gGe (pName 0) (pCon (.int 0))))))
def F_is_count : List S → Out := fnF 1 [] B_is_count
def B_is_letter : FS := (sRet (mPP (pAnd (pFd F_is_integer (aCons (pName 1) aNil)) (pChain gLe gLe (pCon (.int 1)) (pCa gAbs (aCons (pName 1) aNil)) (pName 0)))))
def F_is_letter : List S → Out := fnF 2 [] B_is_letter
def B_want_rank : FS := (sIf (tMT (tOr (tNot (tVal (pFd F_is_integer (aCons (pName 0) aNil)))) (tNot (tVal (pChain gLe gLe (pCon (.int 1)) (pName 0) (pCon (.int 4))))))) sStuck sNil)
def F_want_rank : List S → Out := fnF 1 [] B_want_rank
def B_want_told : FS := (sSeq (sExpr (mFd 3 F_want_at_most (arFz (mPP (pCon (.str "letters"))) (arFz (mPP (pCon (.int 60))) (arFz (mPP (pCa gLen (aCons (pName 0) aNil))) arNil))))) (sRet (mPP (pName 0))))
def F_want_told : List S → Out := fnF 1 [] B_want_told
def B_put_together : FS := (sSeq (sSetO 1 (mPP (pLst aNil))) (sSeq (sFor (iSeq (pName 0)) (gNm 2) (sExpr (mMt 1 gExt (mPP (pCa gList (aCons (pName 2) aNil)))))) (sRet (mPP (pFd F_reduced_of (aCons (pName 1) aNil))))))
def F_put_together : List S → Out := fnF 3 [] B_put_together
def B_words_from : FS := (sSeq (sSetO 2 (mPP (pLst aNil))) (sSeq (sFor (iSeq (pName 0)) (gNm 3) (sExpr (mMt 2 gExt (mPP (pLc [4] (iSeq (pFd F_letters_of (aCons (pName 1) aNil))) (gNm 4) (tOr (tVal (p2 gEq (pName 3) (pTup aNil))) (tVal (p2 gNe (p2 gAdd (p2 gIx (pName 3) (p1 gNeg (pCon (.int 1)))) (pName 4)) (pCon (.int 0))))) (p2 gAdd (pName 3) (pTup (aCons (pName 4) aNil)))))))) (sRetMv 2)))
def F_words_from : List S → Out := fnF 5 [] B_words_from
def B__law_pick : FS := (sRet (m2 gIx (mPP (pName 1)) (mFd 2 F__law_draw (arBw 0 (arFz (mPP (pCa gLen (aCons (pName 1) aNil))) arNil)))))
def F__law_pick : List S → Out := fnF 2 [0] B__law_pick
def B__law_exchange : FS := (sSeq (sSet 3 (mPP (pLc [9] (iRg2 (aCons (pCon (.int 1)) (aCons (p2 gAdd (pName 1) (pCon (.int 1))) aNil))) (gNm 9) tAll (pTup (aCons (pName 9) aNil))))) (sSeq (sFor (iRg1 (aCons (pName 2) aNil)) (gNm 4) (sSeq (sPar3 5 6 7 (arFz (mFd 2 F__law_draw (arBw 0 (arFz (mPP (pName 1)) arNil))) (arFz (mFd 2 F__law_draw (arBw 0 (arFz (mPP (pName 1)) arNil))) (arFz (mFd 2 F__law_draw (arBw 0 (arFz (mPP (pCon (.int 4))) arNil))) arNil)))) (sSeq (sSetO 8 (mPP (pCa gList (aCons (pName 3) aNil)))) (sSeq (sIf (tMT (tVal (p2 gEq (pName 7) (pCon (.int 0))))) (sAsg (mPP (pFd F__law_undone (aCons (p2 gIx (pName 8) (pName 5)) aNil))) (gSet 8 (pName 5))) sNil) (sSeq (sIf (tMT (tVal (p2 gEq (pName 7) (pCon (.int 1))))) (sAsg (mPP (pTup (aCons (p2 gIx (pName 8) (pName 6)) (aCons (p2 gIx (pName 8) (pName 5)) aNil)))) (gTp 2 (gsCons (gSet 8 (pName 5)) (gsCons (gSet 8 (pName 6)) gsNil)))) sNil) (sSeq (sIf (tMT (tAnd (tVal (p2 gEq (pName 7) (pCon (.int 2)))) (tVal (p2 gNe (pName 5) (pName 6))))) (sAsg (mPP (pFd F__law_reduced (aCons (p2 gAdd (p2 gIx (pName 8) (pName 5)) (p2 gIx (pName 8) (pName 6))) aNil))) (gSet 8 (pName 5))) sNil) (sSeq (sIf (tMT (tAnd (tVal (p2 gEq (pName 7) (pCon (.int 3)))) (tVal (p2 gNe (pName 5) (pName 6))))) (sAsg (mPP (pFd F__law_reduced (aCons (p2 gAdd (pFd F__law_undone (aCons (p2 gIx (pName 8) (pName 6)) aNil)) (p2 gIx (pName 8) (pName 5))) aNil))) (gSet 8 (pName 5))) sNil) (sSet 3 (mIfM (tMT (tVal (p2 gLe (pCa gSum (aCons (pLc [10] (iSeq (pName 8)) (gNm 10) tAll (pCa gLen (aCons (pName 10) aNil))) aNil)) (pCon (.int 24))))) (mMv 8) (mPP (pName 3))))))))))) (sRet (mPP (pTup (aCons (pCon (.str "images")) (aCons (pName 1) (aCons (pName 1) (aCons (pCa gTuple (aCons (pName 3) aNil)) aNil)))))))))
def F__law_exchange : List S → Out := fnF 11 [0] B__law_exchange
def B__law_image : FS := (sSeq (sSet 2 (mPP (pTup aNil))) (sSeq (sFor (iSeq (pName 1)) (gNm 3) (sSeq (sSet 4 (mPP (p2 gIx (p2 gIx (pName 0) (pCon (.int 3))) (p2 gSub (pCa gAbs (aCons (pName 3) aNil)) (pCon (.int 1)))))) (sSet 2 (mPP (pFd F__law_reduced (aCons (p2 gAdd (pName 2) (pIf (tVal (p2 gGt (pName 3) (pCon (.int 0)))) (pName 4) (pFd F__law_undone (aCons (pName 4) aNil)))) aNil)))))) (sRet (mPP (pName 2)))))
def F__law_image : List S → Out := fnF 5 [] B__law_image
def B__law_letters_only : FS := (sSeq (sParO 2 3 (mPP (pLr2 (pCon (.int 1)) (p2 gAdd (pName 1) (pCon (.int 1))))) (mPP (pLst aNil))) (sSeq (sFor (iRg1 (aCons (pName 1) aNil)) (gNm 4) (sSeq (sSet 5 (mMt 2 gPopAt (mFd 2 F__law_draw (arBw 0 (arFz (mPP (pCa gLen (aCons (pName 2) aNil))) arNil))))) (sExpr (mMt 3 gApp (mTup (lCons (mIfM (m2 gEq (mFd 2 F__law_draw (arBw 0 (arFz (mPP (pCon (.int 2))) arNil))) (mPP (pCon (.int 0)))) (mPP (pName 5)) (mPP (p2 gSub (pCon (.int 0)) (pName 5)))) lNil)))))) (sRet (mPP (pTup (aCons (pCon (.str "images")) (aCons (pName 1) (aCons (pName 1) (aCons (pCa gTuple (aCons (pName 3) aNil)) aNil)))))))))
def F__law_letters_only : List S → Out := fnF 6 [0] B__law_letters_only
def B__law_rings : FS := (sSeq (sSet 1 (mPP (pCon (.int 1)))) (sSeq (sFor (iRg2 (aCons (pCon (.int 1)) (aCons (p2 gAdd (p2 gIx (pName 0) (pCon (.int 1))) (pCon (.int 1))) aNil))) (gNm 2) (sSeq (sPar3 3 4 5 (arFz (mPP (pName 2)) (arFz (mPP (pCon (.int 0))) (arFz (mPP (pCon (.int 1))) arNil)))) (sSeq (whileF (tMT (tOr (tVal (p2 gEq (pName 4) (pCon (.int 0)))) (tVal (p2 gNe (pName 3) (pName 2))))) (sSeq (sSet 6 (mPP (p2 gIx (p2 gIx (p2 gIx (pName 0) (pCon (.int 3))) (p2 gSub (pName 3) (pCon (.int 1)))) (pCon (.int 0))))) (sPar3 3 4 5 (arFz (mPP (pCa gAbs (aCons (pName 6) aNil))) (arFz (mPP (p2 gAdd (pName 4) (pCon (.int 1)))) (arFz (mPP (p2 gMul (pName 5) (pIf (tVal (p2 gGt (pName 6) (pCon (.int 0)))) (pCon (.int 1)) (p1 gNeg (pCon (.int 1)))))) arNil))))) FUEL) (sSet 1 (mPP (pFd F__law_common (aCons (pName 1) (aCons (pIf (tVal (p2 gEq (pName 5) (pCon (.int 1)))) (pName 4) (p2 gMul (pCon (.int 2)) (pName 4))) aNil)))))))) (sRet (mPP (pName 1)))))
def F__law_rings : List S → Out := fnF 7 [] B__law_rings
def B_want_many : FS := (sIf (tMT (tOr (tNot (tVal (pFd F_is_count (aCons (pName 0) aNil)))) (tNot (tVal (pChain gLe gLe (pName 2) (pName 0) (pName 1)))))) sStuck sNil)
def F_want_many : List S → Out := fnF 3 [] B_want_many
def B_is_row : FS := (sRet (mPP (pAnd (pIsi .tuple (pName 1)) (pAnd (p2 gLe (pCa gLen (aCons (pName 1) aNil)) (pCon (.int 240))) (pCa gAll (aCons (pLc [2] (iSeq (pName 1)) (gNm 2) tAll (pFd F_is_letter (aCons (pName 0) (aCons (pName 2) aNil)))) aNil))))))
def F_is_row : List S → Out := fnF 3 [] B_is_row
def B_image_of : FS := (sSeq (sSet 2 (mPP (p2 gIx (pName 0) (pCon (.int 3))))) (sRet (mPP (pFd F_put_together (aCons (pLc [3] (iSeq (pName 1)) (gNm 3) tAll (pIf (tVal (p2 gGt (pName 3) (pCon (.int 0)))) (p2 gIx (pName 2) (p2 gSub (pName 3) (pCon (.int 1)))) (pFd F_undone_of (aCons (p2 gIx (pName 2) (p2 gSub (p1 gNeg (pName 3)) (pCon (.int 1)))) aNil)))) aNil)))))
def F_image_of : List S → Out := fnF 4 [] B_image_of
def B_fits_images : FS := (sSeq (sFor (iSeq (pName 0)) (gNm 1) (sExpr (mFd 1 F_want_told (arFz (mPP (pName 1)) arNil)))) (sSeq (sExpr (mFd 3 F_want_at_most (arFz (mPP (pCon (.str "together"))) (arFz (mPP (pCon (.int 48))) (arFz (mPP (pCa gSum (aCons (pLc [1] (iSeq (pName 0)) (gNm 1) tAll (pCa gLen (aCons (pName 1) aNil))) aNil))) arNil))))) (sRet (mPP (pName 0)))))
def F_fits_images : List S → Out := fnF 2 [] B_fits_images
def B__law_word : FS := (sRet (mFd 1 F__law_reduced (arFz (mLcR [3] (mFd 2 F__law_draw (arBw 0 (arFz (mPP (p2 gAdd (pName 2) (pCon (.int 1)))) arNil))) (gNm 3) tAll (mFd 2 F__law_pick (arBw 0 (arFz (mPP (pFd F__law_letters (aCons (pName 1) aNil))) arNil)))) arNil)))
def F__law_word : List S → Out := fnF 4 [0] B__law_word
def B__law_powers : FS := (sSeq (sSet 2 (mPP (pCa gTuple (aCons (pLc [4] (iRg2 (aCons (pCon (.int 1)) (aCons (p2 gAdd (p2 gIx (pName 0) (pCon (.int 1))) (pCon (.int 1))) aNil))) (gNm 4) tAll (pTup (aCons (pName 4) aNil))) aNil)))) (sSeq (sFor (iRg1 (aCons (pName 1) aNil)) (gNm 3) (sSeq (sSet 2 (mPP (pCa gTuple (aCons (pLc [5] (iSeq (pName 2)) (gNm 5) tAll (pFd F__law_image (aCons (pName 0) (aCons (pName 5) aNil)))) aNil)))) (sSeq (sIf (tMT (tVal (p2 gGt (pCa gMaxL (aCons (pLc [5] (iSeq (pName 2)) (gNm 5) tAll (pCa gLen (aCons (pName 5) aNil))) aNil)) (pCon (.int 60))))) (sRet (mPP (pLst (aCons (pCon (.str "letters")) (aCons (pCon (.int 60)) aNil))))) sNil) (sIf (tMT (tVal (p2 gGt (pCa gSum (aCons (pLc [5] (iSeq (pName 2)) (gNm 5) tAll (pCa gLen (aCons (pName 5) aNil))) aNil)) (pCon (.int 48))))) (sRet (mPP (pLst (aCons (pCon (.str "together")) (aCons (pCon (.int 48)) aNil))))) sNil)))) (sRet (mPP (pTup (aCons (pCon (.str "images")) (aCons (p2 gIx (pName 0) (pCon (.int 1))) (aCons (p2 gIx (pName 0) (pCon (.int 1))) (aCons (pName 2) aNil)))))))))
def F__law_powers : List S → Out := fnF 6 [] B__law_powers
def B__law_least : FS := (sSeq (sSet 1 (mPP (pCa gTuple (aCons (pLc [4] (iRg2 (aCons (pCon (.int 1)) (aCons (p2 gAdd (p2 gIx (pName 0) (pCon (.int 1))) (pCon (.int 1))) aNil))) (gNm 4) tAll (pTup (aCons (pName 4) aNil))) aNil)))) (sSeq (sSet 2 (mPP (p2 gIx (pName 0) (pCon (.int 3))))) (sSeq (sFor (iRg2 (aCons (pCon (.int 1)) (aCons (pCon (.int 25)) aNil))) (gNm 3) (sSeq (sIf (tMT (tVal (p2 gEq (pName 2) (pName 1)))) (sRet (mPP (pName 3))) sNil) (sSeq (sIf (tMT (tVal (p2 gGt (pCa gSum (aCons (pLc [5] (iSeq (pName 2)) (gNm 5) tAll (pCa gLen (aCons (pName 5) aNil))) aNil)) (pCon (.int 48))))) (sRet (mPP (pCon .non))) sNil) (sSet 2 (mPP (pCa gTuple (aCons (pLc [5] (iSeq (pName 2)) (gNm 5) tAll (pFd F__law_image (aCons (pName 0) (aCons (pName 5) aNil)))) aNil))))))) (sRet (mPP (pCon .non))))))
def F__law_least : List S → Out := fnF 6 [] B__law_least
def B_is_word : FS := (sRet (mPP (pAnd (pFd F_is_row (aCons (pName 0) (aCons (pName 1) aNil))) (pAnd (p2 gLe (pCa gLen (aCons (pName 1) aNil)) (pCon (.int 60))) (pFd F_is_reduced (aCons (pName 1) aNil))))))
def F_is_word : List S → Out := fnF 2 [] B_is_word
def B_first_words : FS := (sSeq (sExpr (mPP (pFd F_want_rank (aCons (pName 0) aNil)))) (sSeq (sExpr (mPP (pFd F_want_many (aDf [0] (aCons (pName 1) (aCons (pCon (.int 60)) aNil)))))) (sSeq (sExpr (mPP (pFd F_want_at_most (aCons (pCon (.str "words")) (aCons (pCon (.int 400)) (aCons (pFd F_many_words (aCons (pName 0) (aCons (pName 1) aNil))) aNil)))))) (sSeq (sSet 2 (mPP (pLst (aCons (pTup aNil) aNil)))) (sSeq (sFor (iRg1 (aCons (pName 1) aNil)) (gNm 3) (sSet 2 (mPP (pFd F_words_from (aCons (pName 2) (aCons (pName 0) aNil)))))) (sRet (mPP (pName 2))))))))
def F_first_words : List S → Out := fnF 4 [] B_first_words
def B_behind_of : FS := (sRet (mPP (pCa gTuple (aCons (pLc [2] (iSeq (p2 gIx (pName 0) (pCon (.int 3)))) (gNm 2) tAll (pFd F_image_of (aCons (pName 1) (aCons (pName 2) aNil)))) aNil))))
def F_behind_of : List S → Out := fnF 3 [] B_behind_of
def B_kept_words : FS := (sSeq (sSet 2 (mPP (pLst (aCons (pTup aNil) aNil)))) (sSeq (sFor (iRg1 (aCons (pName 1) aNil)) (gNm 3) (sSet 2 (mPP (pFd F_words_from (aCons (pName 2) (aCons (p2 gIx (pName 0) (pCon (.int 1))) aNil)))))) (sRet (mPP (pLc [4] (iSeq (pName 2)) (gNm 4) (tVal (p2 gEq (pFd F_image_of (aCons (pName 0) (aCons (pName 4) aNil))) (pName 4))) (pName 4))))))
def F_kept_words : List S → Out := fnF 5 [] B_kept_words
def B__law_images : FS := (sSeq (sSetO 4 (mLc [6] (iRg1 (aCons (pName 1) aNil)) (gNm 6) tAll (mFd 3 F__law_word (arBw 0 (arFz (mPP (pName 2)) (arFz (mPP (pName 3)) arNil)))))) (sSeq (sSet 5 (mFd 2 F__law_draw (arBw 0 (arFz (mPP (pCon (.int 5))) arNil)))) (sSeq (sIf (tMT (tAnd (tVal (p2 gEq (pName 5) (pCon (.int 0)))) (tVal (p2 gGt (pName 1) (pCon (.int 1)))))) (sAsg (mPP (pFd F__law_reduced (aCons (p2 gAdd (p2 gIx (pName 4) (pCon (.int 1))) (p2 gIx (pName 4) (p1 gNeg (pCon (.int 1))))) aNil))) (gSet 4 (pCon (.int 0)))) sNil) (sRet (mPP (pTup (aCons (pCon (.str "images")) (aCons (pName 1) (aCons (pName 2) (aCons (pCa gTuple (aCons (pName 4) aNil)) aNil))))))))))
def F__law_images : List S → Out := fnF 7 [0] B__law_images
def B_is_images_value : FS := (sSeq (sIf (tMT (tOr (tNot (tVal (pIsi .tuple (pName 0)))) (tOr (tVal (p2 gNe (pCa gLen (aCons (pName 0) aNil)) (pCon (.int 4)))) (tOr (tNot (tVal (pIsi .str (p2 gIx (pName 0) (pCon (.int 0)))))) (tVal (p2 gNe (p2 gIx (pName 0) (pCon (.int 0))) (pCon (.str "images")))))))) (sRet (mPP (pCon (.bl false)))) sNil) (sSeq (sAsg (mPP (pSl (pName 0) (oSome (pCon (.int 1))) oNone)) (gTp 3 (gsCons (gNm 1) (gsCons (gNm 2) (gsCons (gNm 3) gsNil))))) (sSeq (sIf (tMT (tNot (tVal (pCa gAll (aCons (pLc [4] (iSeq (pTup (aCons (pName 1) (aCons (pName 2) aNil)))) (gNm 4) tAll (pAnd (pFd F_is_integer (aCons (pName 4) aNil)) (pChain gLe gLe (pCon (.int 1)) (pName 4) (pCon (.int 4))))) aNil))))) (sRet (mPP (pCon (.bl false)))) sNil) (sSeq (sIf (tMT (tOr (tNot (tVal (pIsi .tuple (pName 3)))) (tOr (tVal (p2 gNe (pCa gLen (aCons (pName 3) aNil)) (pName 1))) (tNot (tVal (pCa gAll (aCons (pLc [5] (iSeq (pName 3)) (gNm 5) tAll (pFd F_is_word (aCons (pName 2) (aCons (pName 5) aNil)))) aNil))))))) (sRet (mPP (pCon (.bl false)))) sNil) (sRet (mPP (p2 gLe (pCa gSum (aCons (pLc [5] (iSeq (pName 3)) (gNm 5) tAll (pCa gLen (aCons (pName 5) aNil))) aNil)) (pCon (.int 48)))))))))
def F_is_images_value : List S → Out := fnF 6 [] B_is_images_value
def B_want_images : FS := (sIf (tMT (tNot (tVal (pFd F_is_images_value (aCons (pName 0) aNil))))) sStuck sNil)
def F_want_images : List S → Out := fnF 1 [] B_want_images
def B_want_own_rank : FS := (sSeq (sExpr (mPP (pFd F_want_images (aCons (pName 0) aNil)))) (sIf (tMT (tVal (p2 gNe (p2 gIx (pName 0) (pCon (.int 1))) (p2 gIx (pName 0) (pCon (.int 2)))))) sStuck sNil))
def F_want_own_rank : List S → Out := fnF 1 [] B_want_own_rank
def B_images_power : FS := (sSeq (sExpr (mPP (pFd F_want_images (aCons (pName 0) aNil)))) (sSeq (sExpr (mPP (pFd F_want_many (aDf [0] (aCons (pName 1) (aCons (pCon (.int 24)) aNil)))))) (sSeq (sExpr (mPP (pFd F_want_own_rank (aCons (pName 0) aNil)))) (sSeq (sSet 2 (mPP (pFd F_letters_as_images (aCons (p2 gIx (pName 0) (pCon (.int 1))) aNil)))) (sSeq (sFor (iRg1 (aCons (pName 1) aNil)) (gNm 3) (sSet 2 (mTup (lCons (mPP (pCon (.str "images"))) (lCons (mPP (p2 gIx (pName 0) (pCon (.int 1)))) (lCons (mPP (p2 gIx (pName 0) (pCon (.int 1)))) (lCons (mFd 1 F_fits_images (arFz (mPP (pFd F_behind_of (aCons (pName 2) (aCons (pName 0) aNil)))) arNil)) lNil))))))) (sRet (mPP (pName 2))))))))
def F_images_power : List S → Out := fnF 4 [] B_images_power
def B_least_turn : FS := (sSeq (sExpr (mPP (pFd F_want_own_rank (aCons (pName 0) aNil)))) (sSeq (sPar 1 2 (arFz (mPP (p2 gIx (pName 0) (pCon (.int 3)))) (arFz (mPP (p2 gIx (pFd F_letters_as_images (aCons (p2 gIx (pName 0) (pCon (.int 1))) aNil)) (pCon (.int 3)))) arNil))) (sSeq (sFor (iRg2 (aCons (pCon (.int 1)) (aCons (p2 gAdd (pCon (.int 24)) (pCon (.int 1))) aNil))) (gNm 3) (sSeq (sIf (tMT (tVal (p2 gEq (pName 1) (pName 2)))) (sRet (mPP (pName 3))) sNil) (sSeq (sIf (tMT (tVal (p2 gGt (pCa gSum (aCons (pLc [4] (iSeq (pName 1)) (gNm 4) tAll (pCa gLen (aCons (pName 4) aNil))) aNil)) (pCon (.int 48))))) (sRet (mPP (pCon .non))) sNil) (sSet 1 (mPP (pCa gTuple (aCons (pLc [4] (iSeq (pName 1)) (gNm 4) tAll (pFd F_image_of (aCons (pName 0) (aCons (pName 4) aNil)))) aNil))))))) (sRet (mPP (pCon .non))))))
def F_least_turn : List S → Out := fnF 5 [] B_least_turn
def B_words_left : FS := (sSeq (sExpr (mPP (pFd F_want_images (aCons (pName 0) aNil)))) (sSeq (sExpr (mPP (pFd F_want_many (aDf [0] (aCons (pName 1) (aCons (pCon (.int 24)) aNil)))))) (sSeq (sExpr (mPP (pFd F_want_own_rank (aCons (pName 0) aNil)))) (sSeq (sExpr (mPP (pFd F_want_at_most (aCons (pCon (.str "words")) (aCons (pCon (.int 400)) (aCons (pFd F_many_words (aCons (p2 gIx (pName 0) (pCon (.int 1))) (aCons (pName 1) aNil))) aNil)))))) (sRet (mPP (pFd F_kept_words (aCons (pName 0) (aCons (pName 1) aNil)))))))))
def F_words_left : List S → Out := fnF 2 [] B_words_left
def B__law_right : FS := (sSeq (sFor (iRg1 (aCons (pCon (.int 4)) aNil)) (gNm 1) (sSeq (sSet 2 (m2 gAdd (mPP (pCon (.int 1))) (mFd 2 F__law_draw (arBw 0 (arFz (mPP (pCon (.int 3))) arNil))))) (sSeq (sForM (mLst (lCons (mFd 3 F__law_exchange (arBw 0 (arFz (mPP (pName 2)) (arFz (m2 gAdd (mPP (pCon (.int 1))) (mFd 2 F__law_draw (arBw 0 (arFz (mPP (pCon (.int 4))) arNil)))) arNil)))) (lCons (mFd 4 F__law_images (arBw 0 (arFz (mPP (pName 2)) (arFz (mPP (pName 2)) (arFz (mPP (pCon (.int 3))) arNil))))) (lCons (mFd 2 F__law_letters_only (arBw 0 (arFz (mPP (pName 2)) arNil))) lNil)))) (gNm 3) (sSeq (sSet 4 (mFd 2 F__law_draw (arBw 0 (arFz (mPP (pCon (.int 25))) arNil)))) (sSeq (sSet 5 (mPP (pFd F__law_powers (aCons (pName 3) (aCons (pName 4) aNil))))) (sSeq (sSetO 6 (mLst (lCons (mHeard "TooMany" "what" "limit" (mFd 2 F_images_power (arFz (mPP (pName 3)) (arFz (mPP (pName 4)) arNil)))) lNil))) (sSeq (sExpr (mMt 6 gApp (mHeard "TooMany" "what" "limit" (mFdK F_images_power (permG 0 2 [1, 0]) 2 (aCons (pName 4) (aCons (pName 3) aNil)))))) (sSeq (sIf (tMT (tOr (tVal (p2 gNe (pName 6) (pLst (aCons (pName 5) (aCons (pName 5) aNil))))) (tVal (p2 gNe (pCa gRepr (aCons (pLst (aCons (pFd F_least_turn (aCons (pName 3) aNil)) (aCons (pFdK F_least_turn (permG 0 1 [0]) 1 aNil (aCons (pName 3) aNil)) aNil))) aNil)) (pCa gRepr (aCons (p2 gMul (pLst (aCons (pFd F__law_least (aCons (pName 3) aNil)) aNil)) (pCon (.int 2))) aNil)))))) (sRet (mPP (pCon (.bl false)))) sNil) (sSeq (sIf (tMT (tAnd (tVal (pIsi .tuple (pName 5))) (tAnd (tVal (p2 gGt (pName 4) (pCon (.int 0)))) (tAnd (tVal (p2 gIsNot (pFd F_least_turn (aCons (pName 3) aNil)) (pCon .non))) (tVal (p2 gEq (pCa gInt (aCons (p2 gMod (pName 4) (pFd F_least_turn (aCons (pName 3) aNil))) aNil)) (pCon (.int 0)))))))) (sIf (tMT (tVal (p2 gNe (p2 gIx (pName 5) (pCon (.int 3))) (pCa gTuple (aCons (pLc [9] (iRg2 (aCons (pCon (.int 1)) (aCons (p2 gAdd (pName 2) (pCon (.int 1))) aNil))) (gNm 9) tAll (pTup (aCons (pName 9) aNil))) aNil))))) (sRet (mPP (pCon (.bl false)))) sNil) sNil) (sSeq (sSet 7 (m2 gAdd (mPP (pCon (.int 1))) (mFd 2 F__law_draw (arBw 0 (arFz (mPP (p2 gIx (pLst (aCons (pCon (.int 4)) (aCons (pCon (.int 3)) (aCons (pCon (.int 2)) aNil)))) (p2 gSub (pName 2) (pCon (.int 1))))) arNil))))) (sSeq (sSet 8 (mPP (pLc [10] (iSeq (pFd F_first_words (aCons (pName 2) (aCons (pName 7) aNil)))) (gNm 10) (tVal (p2 gEq (pFd F__law_image (aCons (pName 3) (aCons (pName 10) aNil))) (pName 10))) (pName 10)))) (sIf (tMT (tOr (tVal (p2 gNe (pLst (aCons (pFd F_words_left (aCons (pName 3) (aCons (pName 7) aNil))) (aCons (pFdK F_words_left (permG 0 2 [1, 0]) 2 aNil (aCons (pName 7) (aCons (pName 3) aNil))) aNil))) (pLst (aCons (pName 8) (aCons (pName 8) aNil))))) (tVal (p2 gNe (pFd F_words_left (aCons (pName 3) (aCons (pCon (.int 0)) aNil))) (pLst (aCons (pTup aNil) aNil)))))) (sRet (mPP (pCon (.bl false)))) sNil)))))))))) (sSeq (sSet 3 (mFd 2 F__law_letters_only (arBw 0 (arFz (mPP (pCon (.int 4))) arNil)))) (sIf (tMT (tVal (p2 gNe (pFd F_least_turn (aCons (pName 3) aNil)) (pFd F__law_rings (aCons (pName 3) aNil))))) (sRet (mPP (pCon (.bl false)))) sNil))))) (sRet (mPP (pCon (.bl true)))))
def F__law_right : List S → Out := fnF 11 [0] B__law_right
def B_law : FS := (sRet (mCa gAll (lCons (mLc [1] (iRg1 (aCons (pCa gMax2 (aCons (pCon (.int 1)) (aCons (pCa gMin2 (aCons (pCon (.int 3)) (aCons (pCa gLen (aCons (pName 0) aNil)) aNil))) aNil))) aNil)) (gNm 1) tAll (mFd 1 F__law_right (arOw (mPP (pFd F__law_pot (aCons (pName 0) (aCons (pName 1) aNil)))) arNil))) lNil)))
def F_law : List S → Out := fnF 2 [] B_law
theorem bn_is_integer : BindsA d_is_integer ["value"] := fun kV doc pm an cdv ct us hl => match us, hl with | [_], _ => rfl
theorem bn_want_at_most : BindsA d_want_at_most ["what", "limit", "number"] := fun kV doc pm an cdv ct us hl => match us, hl with | [_, _, _], _ => rfl
theorem bn_is_reduced : BindsA d_is_reduced ["row"] := fun kV doc pm an cdv ct us hl => match us, hl with | [_], _ => rfl
theorem bn_letters_of : BindsA d_letters_of ["rank"] := fun kV doc pm an cdv ct us hl => match us, hl with | [_], _ => rfl
theorem bn_reduced_of : BindsA d_reduced_of ["row"] := fun kV doc pm an cdv ct us hl => match us, hl with | [_], _ => rfl
theorem bn_undone_of : BindsA d_undone_of ["word"] := fun kV doc pm an cdv ct us hl => match us, hl with | [_], _ => rfl
theorem bn_many_words : BindsA d_many_words ["rank", "length"] := fun kV doc pm an cdv ct us hl => match us, hl with | [_, _], _ => rfl
theorem bn_letters_as_images : BindsA d_letters_as_images ["rank"] := fun kV doc pm an cdv ct us hl => match us, hl with | [_], _ => rfl
theorem bn__law_pot : BindsA d__law_pot ["script", "k"] := fun kV doc pm an cdv ct us hl => match us, hl with | [_, _], _ => rfl
theorem bn__law_draw : BindsA d__law_draw ["pot", "many"] := fun kV doc pm an cdv ct us hl => match us, hl with | [_, _], _ => rfl
theorem bn__law_reduced : BindsA d__law_reduced ["row"] := fun kV doc pm an cdv ct us hl => match us, hl with | [_], _ => rfl
theorem bn__law_undone : BindsA d__law_undone ["word"] := fun kV doc pm an cdv ct us hl => match us, hl with | [_], _ => rfl
theorem bn__law_letters : BindsA d__law_letters ["rank"] := fun kV doc pm an cdv ct us hl => match us, hl with | [_], _ => rfl
theorem bn__law_heard : BindsA d__law_heard ["call"] := fun kV doc pm an cdv ct us hl => match us, hl with | [_], _ => rfl
theorem bn__law_common : BindsA d__law_common ["one", "other"] := fun kV doc pm an cdv ct us hl => match us, hl with | [_, _], _ => rfl
theorem bn_is_count : BindsA d_is_count ["value"] := fun kV doc pm an cdv ct us hl => match us, hl with | [_], _ => rfl
theorem bn_is_letter : BindsA d_is_letter ["rank", "value"] := fun kV doc pm an cdv ct us hl => match us, hl with | [_, _], _ => rfl
theorem bn_want_rank : BindsA d_want_rank ["value"] := fun kV doc pm an cdv ct us hl => match us, hl with | [_], _ => rfl
theorem bn_want_told : BindsA d_want_told ["word"] := fun kV doc pm an cdv ct us hl => match us, hl with | [_], _ => rfl
theorem bn_put_together : BindsA d_put_together ["words"] := fun kV doc pm an cdv ct us hl => match us, hl with | [_], _ => rfl
theorem bn_words_from : BindsA d_words_from ["words", "rank"] := fun kV doc pm an cdv ct us hl => match us, hl with | [_, _], _ => rfl
theorem bn__law_pick : BindsA d__law_pick ["pot", "some"] := fun kV doc pm an cdv ct us hl => match us, hl with | [_, _], _ => rfl
theorem bn__law_exchange : BindsA d__law_exchange ["pot", "rank", "moves"] := fun kV doc pm an cdv ct us hl => match us, hl with | [_, _, _], _ => rfl
theorem bn__law_image : BindsA d__law_image ["images", "word"] := fun kV doc pm an cdv ct us hl => match us, hl with | [_, _], _ => rfl
theorem bn__law_letters_only : BindsA d__law_letters_only ["pot", "rank"] := fun kV doc pm an cdv ct us hl => match us, hl with | [_, _], _ => rfl
theorem bn__law_rings : BindsA d__law_rings ["images"] := fun kV doc pm an cdv ct us hl => match us, hl with | [_], _ => rfl
theorem bn_want_many_D1 : BindsD d_want_many ["value", "most", "least"] 2 0 1 := fun T kV doc pm an cdv ct us its hu hi => match us, its, hu, hi with | [_, _], [_], _, _ => ⟨_, rfl, rfl⟩
theorem bn_is_row : BindsA d_is_row ["rank", "value"] := fun kV doc pm an cdv ct us hl => match us, hl with | [_, _], _ => rfl
theorem bn_image_of : BindsA d_image_of ["images", "word"] := fun kV doc pm an cdv ct us hl => match us, hl with | [_, _], _ => rfl
theorem bn_fits_images : BindsA d_fits_images ["words"] := fun kV doc pm an cdv ct us hl => match us, hl with | [_], _ => rfl
theorem bn__law_word : BindsA d__law_word ["pot", "rank", "most"] := fun kV doc pm an cdv ct us hl => match us, hl with | [_, _, _], _ => rfl
theorem bn__law_powers : BindsA d__law_powers ["images", "many"] := fun kV doc pm an cdv ct us hl => match us, hl with | [_, _], _ => rfl
theorem bn__law_least : BindsA d__law_least ["images"] := fun kV doc pm an cdv ct us hl => match us, hl with | [_], _ => rfl
theorem bn_is_word : BindsA d_is_word ["rank", "value"] := fun kV doc pm an cdv ct us hl => match us, hl with | [_, _], _ => rfl
theorem bn_first_words : BindsA d_first_words ["rank", "length"] := fun kV doc pm an cdv ct us hl => match us, hl with | [_, _], _ => rfl
theorem bn_behind_of : BindsA d_behind_of ["images", "other"] := fun kV doc pm an cdv ct us hl => match us, hl with | [_, _], _ => rfl
theorem bn_kept_words : BindsA d_kept_words ["images", "length"] := fun kV doc pm an cdv ct us hl => match us, hl with | [_, _], _ => rfl
theorem bn__law_images : BindsA d__law_images ["pot", "rank", "other", "most"] := fun kV doc pm an cdv ct us hl => match us, hl with | [_, _, _, _], _ => rfl
theorem bn_is_images_value : BindsA d_is_images_value ["value"] := fun kV doc pm an cdv ct us hl => match us, hl with | [_], _ => rfl
theorem bn_want_images : BindsA d_want_images ["value"] := fun kV doc pm an cdv ct us hl => match us, hl with | [_], _ => rfl
theorem bn_want_own_rank : BindsA d_want_own_rank ["images"] := fun kV doc pm an cdv ct us hl => match us, hl with | [_], _ => rfl
theorem bn_images_power : BindsA d_images_power ["images", "many"] := fun kV doc pm an cdv ct us hl => match us, hl with | [_, _], _ => rfl
theorem bn_least_turn : BindsA d_least_turn ["images"] := fun kV doc pm an cdv ct us hl => match us, hl with | [_], _ => rfl
theorem bn_words_left : BindsA d_words_left ["images", "length"] := fun kV doc pm an cdv ct us hl => match us, hl with | [_, _], _ => rfl
theorem bn__law_right : BindsA d__law_right ["pot"] := fun kV doc pm an cdv ct us hl => match us, hl with | [_], _ => rfl
theorem bn_law : BindsA d_law ["script"] := fun kV doc pm an cdv ct us hl => match us, hl with | [_], _ => rfl
theorem bk_images_power_0_many_images : BindsK d_images_power ["images", "many"] ["many", "images"] (permG 0 2 [1, 0]) := fun kV doc pm an cdv ct us ws hl => match us, ws, permG_ok hl (by decide) with
  | [], [_, _], _ => rfl
theorem bk_least_turn_0_images : BindsK d_least_turn ["images"] ["images"] (permG 0 1 [0]) := fun kV doc pm an cdv ct us ws hl => match us, ws, permG_ok hl (by decide) with
  | [], [_], _ => rfl
theorem bk_words_left_0_length_images : BindsK d_words_left ["images", "length"] ["length", "images"] (permG 0 2 [1, 0]) := fun kV doc pm an cdv ct us ws hl => match us, ws, permG_ok hl (by decide) with
  | [], [_, _], _ => rfl
/-! ## what the head says -/
structure Fx (K : PySem.W.Frag) (mg : Str → Option Value) : Prop where
  f_abs : mg "abs" = none
  f_all : mg "all" = none
  f_bool : mg "bool" = none
  f_divmod : mg "divmod" = none
  f_int : mg "int" = none
  f_isinstance : mg "isinstance" = none
  f_len : mg "len" = none
  f_list : mg "list" = none
  f_max : mg "max" = none
  f_min : mg "min" = none
  f_range : mg "range" = none
  f_repr : mg "repr" = none
  f_str : mg "str" = none
  f_sum : mg "sum" = none
  f_tuple : mg "tuple" = none
  f_zip : mg "zip" = none
  c_IMAGES : ∃ t, mg "IMAGES" = some (.str "images" t)
  c_MOST_LETTERS : ∃ t, mg "MOST_LETTERS" = some (.int 48 t)
  c_MOST_LISTED_drawnback : ∃ t, mg "MOST_LISTED_drawnback" = some (.int 400 t)
  c_MOST_LISTED_words : ∃ t, mg "MOST_LISTED_words" = some (.int 400 t)
  c_MOST_POWER : ∃ t, mg "MOST_POWER" = some (.int 24 t)
  c_MOST_RANK : ∃ t, mg "MOST_RANK" = some (.int 4 t)
  c_MOST_ROW : ∃ t, mg "MOST_ROW" = some (.int 240 t)
  c_MOST_WORD : ∃ t, mg "MOST_WORD" = some (.int 60 t)
  g_TooMany : mg "TooMany" = some (.ref (He.ga K "TooMany"))
  e_TooMany : EC2 K mg "TooMany" "what" "limit" "TooMany.__init__" (He.ga K "TooMany") (He.ma K (He.ga K "TooMany") "__init__")
  m_TooMany : PySem.W.exmOne K (.ref (He.ga K "TooMany")) (.ref (He.ga K "TooMany")) = some true
  n_is_integer : mg "is_integer" = some (.ref (He.ga K "is_integer"))
  d_is_integer : ∃ fd, FunD K d_is_integer.name d_is_integer.qual d_is_integer.params d_is_integer.body d_is_integer.scope (d_is_integer.dvs K) (d_is_integer.kws K) (He.fAd K d_is_integer.at_) fd
  n_want_at_most : mg "want_at_most" = some (.ref (He.ga K "want_at_most"))
  d_want_at_most : ∃ fd, FunD K d_want_at_most.name d_want_at_most.qual d_want_at_most.params d_want_at_most.body d_want_at_most.scope (d_want_at_most.dvs K) (d_want_at_most.kws K) (He.fAd K d_want_at_most.at_) fd
  n_is_reduced : mg "is_reduced" = some (.ref (He.ga K "is_reduced"))
  d_is_reduced : ∃ fd, FunD K d_is_reduced.name d_is_reduced.qual d_is_reduced.params d_is_reduced.body d_is_reduced.scope (d_is_reduced.dvs K) (d_is_reduced.kws K) (He.fAd K d_is_reduced.at_) fd
  n_letters_of : mg "letters_of" = some (.ref (He.ga K "letters_of"))
  d_letters_of : ∃ fd, FunD K d_letters_of.name d_letters_of.qual d_letters_of.params d_letters_of.body d_letters_of.scope (d_letters_of.dvs K) (d_letters_of.kws K) (He.fAd K d_letters_of.at_) fd
  n_reduced_of : mg "reduced_of" = some (.ref (He.ga K "reduced_of"))
  d_reduced_of : ∃ fd, FunD K d_reduced_of.name d_reduced_of.qual d_reduced_of.params d_reduced_of.body d_reduced_of.scope (d_reduced_of.dvs K) (d_reduced_of.kws K) (He.fAd K d_reduced_of.at_) fd
  n_undone_of : mg "undone_of" = some (.ref (He.ga K "undone_of"))
  d_undone_of : ∃ fd, FunD K d_undone_of.name d_undone_of.qual d_undone_of.params d_undone_of.body d_undone_of.scope (d_undone_of.dvs K) (d_undone_of.kws K) (He.fAd K d_undone_of.at_) fd
  n_many_words : mg "many_words" = some (.ref (He.ga K "many_words"))
  d_many_words : ∃ fd, FunD K d_many_words.name d_many_words.qual d_many_words.params d_many_words.body d_many_words.scope (d_many_words.dvs K) (d_many_words.kws K) (He.fAd K d_many_words.at_) fd
  n_letters_as_images : mg "letters_as_images" = some (.ref (He.ga K "letters_as_images"))
  d_letters_as_images : ∃ fd, FunD K d_letters_as_images.name d_letters_as_images.qual d_letters_as_images.params d_letters_as_images.body d_letters_as_images.scope (d_letters_as_images.dvs K) (d_letters_as_images.kws K) (He.fAd K d_letters_as_images.at_) fd
  n__law_pot : mg "_law_pot" = some (.ref (He.ga K "_law_pot"))
  d__law_pot : ∃ fd, FunD K d__law_pot.name d__law_pot.qual d__law_pot.params d__law_pot.body d__law_pot.scope (d__law_pot.dvs K) (d__law_pot.kws K) (He.fAd K d__law_pot.at_) fd
  n__law_draw : mg "_law_draw" = some (.ref (He.ga K "_law_draw"))
  d__law_draw : ∃ fd, FunD K d__law_draw.name d__law_draw.qual d__law_draw.params d__law_draw.body d__law_draw.scope (d__law_draw.dvs K) (d__law_draw.kws K) (He.fAd K d__law_draw.at_) fd
  n__law_reduced : mg "_law_reduced" = some (.ref (He.ga K "_law_reduced"))
  d__law_reduced : ∃ fd, FunD K d__law_reduced.name d__law_reduced.qual d__law_reduced.params d__law_reduced.body d__law_reduced.scope (d__law_reduced.dvs K) (d__law_reduced.kws K) (He.fAd K d__law_reduced.at_) fd
  n__law_undone : mg "_law_undone" = some (.ref (He.ga K "_law_undone"))
  d__law_undone : ∃ fd, FunD K d__law_undone.name d__law_undone.qual d__law_undone.params d__law_undone.body d__law_undone.scope (d__law_undone.dvs K) (d__law_undone.kws K) (He.fAd K d__law_undone.at_) fd
  n__law_letters : mg "_law_letters" = some (.ref (He.ga K "_law_letters"))
  d__law_letters : ∃ fd, FunD K d__law_letters.name d__law_letters.qual d__law_letters.params d__law_letters.body d__law_letters.scope (d__law_letters.dvs K) (d__law_letters.kws K) (He.fAd K d__law_letters.at_) fd
  n__law_heard : mg "_law_heard" = some (.ref (He.ga K "_law_heard"))
  d__law_heard : ∃ fd, FunD K d__law_heard.name d__law_heard.qual d__law_heard.params d__law_heard.body d__law_heard.scope (d__law_heard.dvs K) (d__law_heard.kws K) (He.fAd K d__law_heard.at_) fd
  n__law_common : mg "_law_common" = some (.ref (He.ga K "_law_common"))
  d__law_common : ∃ fd, FunD K d__law_common.name d__law_common.qual d__law_common.params d__law_common.body d__law_common.scope (d__law_common.dvs K) (d__law_common.kws K) (He.fAd K d__law_common.at_) fd
  n_is_count : mg "is_count" = some (.ref (He.ga K "is_count"))
  d_is_count : ∃ fd, FunD K d_is_count.name d_is_count.qual d_is_count.params d_is_count.body d_is_count.scope (d_is_count.dvs K) (d_is_count.kws K) (He.fAd K d_is_count.at_) fd
  n_is_letter : mg "is_letter" = some (.ref (He.ga K "is_letter"))
  d_is_letter : ∃ fd, FunD K d_is_letter.name d_is_letter.qual d_is_letter.params d_is_letter.body d_is_letter.scope (d_is_letter.dvs K) (d_is_letter.kws K) (He.fAd K d_is_letter.at_) fd
  n_want_rank : mg "want_rank" = some (.ref (He.ga K "want_rank"))
  d_want_rank : ∃ fd, FunD K d_want_rank.name d_want_rank.qual d_want_rank.params d_want_rank.body d_want_rank.scope (d_want_rank.dvs K) (d_want_rank.kws K) (He.fAd K d_want_rank.at_) fd
  n_want_told : mg "want_told" = some (.ref (He.ga K "want_told"))
  d_want_told : ∃ fd, FunD K d_want_told.name d_want_told.qual d_want_told.params d_want_told.body d_want_told.scope (d_want_told.dvs K) (d_want_told.kws K) (He.fAd K d_want_told.at_) fd
  n_put_together : mg "put_together" = some (.ref (He.ga K "put_together"))
  d_put_together : ∃ fd, FunD K d_put_together.name d_put_together.qual d_put_together.params d_put_together.body d_put_together.scope (d_put_together.dvs K) (d_put_together.kws K) (He.fAd K d_put_together.at_) fd
  n_words_from : mg "words_from" = some (.ref (He.ga K "words_from"))
  d_words_from : ∃ fd, FunD K d_words_from.name d_words_from.qual d_words_from.params d_words_from.body d_words_from.scope (d_words_from.dvs K) (d_words_from.kws K) (He.fAd K d_words_from.at_) fd
  n__law_pick : mg "_law_pick" = some (.ref (He.ga K "_law_pick"))
  d__law_pick : ∃ fd, FunD K d__law_pick.name d__law_pick.qual d__law_pick.params d__law_pick.body d__law_pick.scope (d__law_pick.dvs K) (d__law_pick.kws K) (He.fAd K d__law_pick.at_) fd
  n__law_exchange : mg "_law_exchange" = some (.ref (He.ga K "_law_exchange"))
  d__law_exchange : ∃ fd, FunD K d__law_exchange.name d__law_exchange.qual d__law_exchange.params d__law_exchange.body d__law_exchange.scope (d__law_exchange.dvs K) (d__law_exchange.kws K) (He.fAd K d__law_exchange.at_) fd
  n__law_image : mg "_law_image" = some (.ref (He.ga K "_law_image"))
  d__law_image : ∃ fd, FunD K d__law_image.name d__law_image.qual d__law_image.params d__law_image.body d__law_image.scope (d__law_image.dvs K) (d__law_image.kws K) (He.fAd K d__law_image.at_) fd
  n__law_letters_only : mg "_law_letters_only" = some (.ref (He.ga K "_law_letters_only"))
  d__law_letters_only : ∃ fd, FunD K d__law_letters_only.name d__law_letters_only.qual d__law_letters_only.params d__law_letters_only.body d__law_letters_only.scope (d__law_letters_only.dvs K) (d__law_letters_only.kws K) (He.fAd K d__law_letters_only.at_) fd
  n__law_rings : mg "_law_rings" = some (.ref (He.ga K "_law_rings"))
  d__law_rings : ∃ fd, FunD K d__law_rings.name d__law_rings.qual d__law_rings.params d__law_rings.body d__law_rings.scope (d__law_rings.dvs K) (d__law_rings.kws K) (He.fAd K d__law_rings.at_) fd
  n_want_many : mg "want_many" = some (.ref (He.ga K "want_many"))
  d_want_many : ∃ fd, FunD K d_want_many.name d_want_many.qual d_want_many.params d_want_many.body d_want_many.scope (d_want_many.dvs K) (d_want_many.kws K) (He.fAd K d_want_many.at_) fd
  n_is_row : mg "is_row" = some (.ref (He.ga K "is_row"))
  d_is_row : ∃ fd, FunD K d_is_row.name d_is_row.qual d_is_row.params d_is_row.body d_is_row.scope (d_is_row.dvs K) (d_is_row.kws K) (He.fAd K d_is_row.at_) fd
  n_image_of : mg "image_of" = some (.ref (He.ga K "image_of"))
  d_image_of : ∃ fd, FunD K d_image_of.name d_image_of.qual d_image_of.params d_image_of.body d_image_of.scope (d_image_of.dvs K) (d_image_of.kws K) (He.fAd K d_image_of.at_) fd
  n_fits_images : mg "fits_images" = some (.ref (He.ga K "fits_images"))
  d_fits_images : ∃ fd, FunD K d_fits_images.name d_fits_images.qual d_fits_images.params d_fits_images.body d_fits_images.scope (d_fits_images.dvs K) (d_fits_images.kws K) (He.fAd K d_fits_images.at_) fd
  n__law_word : mg "_law_word" = some (.ref (He.ga K "_law_word"))
  d__law_word : ∃ fd, FunD K d__law_word.name d__law_word.qual d__law_word.params d__law_word.body d__law_word.scope (d__law_word.dvs K) (d__law_word.kws K) (He.fAd K d__law_word.at_) fd
  n__law_powers : mg "_law_powers" = some (.ref (He.ga K "_law_powers"))
  d__law_powers : ∃ fd, FunD K d__law_powers.name d__law_powers.qual d__law_powers.params d__law_powers.body d__law_powers.scope (d__law_powers.dvs K) (d__law_powers.kws K) (He.fAd K d__law_powers.at_) fd
  n__law_least : mg "_law_least" = some (.ref (He.ga K "_law_least"))
  d__law_least : ∃ fd, FunD K d__law_least.name d__law_least.qual d__law_least.params d__law_least.body d__law_least.scope (d__law_least.dvs K) (d__law_least.kws K) (He.fAd K d__law_least.at_) fd
  n_is_word : mg "is_word" = some (.ref (He.ga K "is_word"))
  d_is_word : ∃ fd, FunD K d_is_word.name d_is_word.qual d_is_word.params d_is_word.body d_is_word.scope (d_is_word.dvs K) (d_is_word.kws K) (He.fAd K d_is_word.at_) fd
  n_first_words : mg "first_words" = some (.ref (He.ga K "first_words"))
  d_first_words : ∃ fd, FunD K d_first_words.name d_first_words.qual d_first_words.params d_first_words.body d_first_words.scope (d_first_words.dvs K) (d_first_words.kws K) (He.fAd K d_first_words.at_) fd
  n_behind_of : mg "behind_of" = some (.ref (He.ga K "behind_of"))
  d_behind_of : ∃ fd, FunD K d_behind_of.name d_behind_of.qual d_behind_of.params d_behind_of.body d_behind_of.scope (d_behind_of.dvs K) (d_behind_of.kws K) (He.fAd K d_behind_of.at_) fd
  n_kept_words : mg "kept_words" = some (.ref (He.ga K "kept_words"))
  d_kept_words : ∃ fd, FunD K d_kept_words.name d_kept_words.qual d_kept_words.params d_kept_words.body d_kept_words.scope (d_kept_words.dvs K) (d_kept_words.kws K) (He.fAd K d_kept_words.at_) fd
  n__law_images : mg "_law_images" = some (.ref (He.ga K "_law_images"))
  d__law_images : ∃ fd, FunD K d__law_images.name d__law_images.qual d__law_images.params d__law_images.body d__law_images.scope (d__law_images.dvs K) (d__law_images.kws K) (He.fAd K d__law_images.at_) fd
  n_is_images_value : mg "is_images_value" = some (.ref (He.ga K "is_images_value"))
  d_is_images_value : ∃ fd, FunD K d_is_images_value.name d_is_images_value.qual d_is_images_value.params d_is_images_value.body d_is_images_value.scope (d_is_images_value.dvs K) (d_is_images_value.kws K) (He.fAd K d_is_images_value.at_) fd
  n_want_images : mg "want_images" = some (.ref (He.ga K "want_images"))
  d_want_images : ∃ fd, FunD K d_want_images.name d_want_images.qual d_want_images.params d_want_images.body d_want_images.scope (d_want_images.dvs K) (d_want_images.kws K) (He.fAd K d_want_images.at_) fd
  n_want_own_rank : mg "want_own_rank" = some (.ref (He.ga K "want_own_rank"))
  d_want_own_rank : ∃ fd, FunD K d_want_own_rank.name d_want_own_rank.qual d_want_own_rank.params d_want_own_rank.body d_want_own_rank.scope (d_want_own_rank.dvs K) (d_want_own_rank.kws K) (He.fAd K d_want_own_rank.at_) fd
  n_images_power : mg "images_power" = some (.ref (He.ga K "images_power"))
  d_images_power : ∃ fd, FunD K d_images_power.name d_images_power.qual d_images_power.params d_images_power.body d_images_power.scope (d_images_power.dvs K) (d_images_power.kws K) (He.fAd K d_images_power.at_) fd
  n_least_turn : mg "least_turn" = some (.ref (He.ga K "least_turn"))
  d_least_turn : ∃ fd, FunD K d_least_turn.name d_least_turn.qual d_least_turn.params d_least_turn.body d_least_turn.scope (d_least_turn.dvs K) (d_least_turn.kws K) (He.fAd K d_least_turn.at_) fd
  n_words_left : mg "words_left" = some (.ref (He.ga K "words_left"))
  d_words_left : ∃ fd, FunD K d_words_left.name d_words_left.qual d_words_left.params d_words_left.body d_words_left.scope (d_words_left.dvs K) (d_words_left.kws K) (He.fAd K d_words_left.at_) fd
  n__law_right : mg "_law_right" = some (.ref (He.ga K "_law_right"))
  l__law_right : lamK K (He.fAd K d__law_right.at_) = true
  d__law_right : ∃ fd, FunD K d__law_right.name d__law_right.qual d__law_right.params d__law_right.body d__law_right.scope (d__law_right.dvs K) (d__law_right.kws K) (He.fAd K d__law_right.at_) fd
  n_law : mg "law" = some (.ref (He.ga K "law"))
  d_law : ∃ fd, FunD K d_law.name d_law.qual d_law.params d_law.body d_law.scope (d_law.dvs K) (d_law.kws K) (He.fAd K d_law.at_) fd
section
variable {P : Program} {w : World} {K : PySem.W.Frag} {mg : Str → Option Value} {base : Heap}
theorem cm_TooMany (B : Fx K mg) (nm : Str) (b : Bool) (cls : Value) (h : cmTooMany nm = some b) (hm : mg nm = some cls) : PySem.W.exmOne K cls (.ref (He.ga K "TooMany")) = some b := by
  unfold cmTooMany at h
  split at h
  · rename_i e
    cases h
    rw [e, B.g_TooMany] at hm
    cases hm
    exact B.m_TooMany
  · cases h
theorem sc__law_heard : FnScope ["call", "told", "e"] ["call"] d__law_heard.scope := ⟨rfl, rfl, rfl, by decide +kernel, rfl, by decide +kernel, by decide +kernel⟩
theorem sc_is_integer : FnScope ["value"] ["value"] d_is_integer.scope := ⟨rfl, rfl, rfl, by decide +kernel, rfl, by decide +kernel, by decide +kernel⟩
theorem ok_is_integer (B : Fx K mg) (BT : BaseT K mg base)    : Cal P w K mg base 1 d_is_integer ["value"] F_is_integer :=
  cal_of (N := ["value"]) (k := 0) (lk := []) B.n_is_integer B.d_is_integer rfl sc_is_integer fun cdv A outer s H E r hg =>
    have SC := sc_is_integer
    have tk := takes_of (X := cxOf (CX P w) P w K mg base ["value"] d_is_integer.qual d_is_integer.scope (He.fAd K d_is_integer.at_) cdv A outer s H E) rfl rfl rfl rfl
    have ps := passes_of (X := cxOf (CX P w) P w K mg base ["value"] d_is_integer.qual d_is_integer.scope (He.fAd K d_is_integer.at_) cdv A outer s H E) rfl
    (by exact (sds_one (sd_ret (pm_pp (pp_and (pp_isi .int B.f_isinstance B.f_int (pp_name 0)) (pp_one (pp_not (pp_isi .bool B.f_isinstance B.f_bool (pp_name 0)))))))))
theorem sc_want_at_most : FnScope ["what", "limit", "number"] ["what", "limit", "number"] d_want_at_most.scope := ⟨rfl, rfl, rfl, by decide +kernel, rfl, by decide +kernel, by decide +kernel⟩
theorem ok_want_at_most (B : Fx K mg) (BT : BaseT K mg base)    : Cal P w K mg base 1 d_want_at_most ["what", "limit", "number"] F_want_at_most :=
  cal_of (N := ["what", "limit", "number"]) (k := 0) (lk := []) B.n_want_at_most B.d_want_at_most rfl sc_want_at_most fun cdv A outer s H E r hg =>
    have SC := sc_want_at_most
    have tk := takes_of (X := cxOf (CX P w) P w K mg base ["what", "limit", "number"] d_want_at_most.qual d_want_at_most.scope (He.fAd K d_want_at_most.at_) cdv A outer s H E) rfl rfl rfl rfl
    have ps := passes_of (X := cxOf (CX P w) P w K mg base ["what", "limit", "number"] d_want_at_most.qual d_want_at_most.scope (He.fAd K d_want_at_most.at_) cdv A outer s H E) rfl
    (by exact (sds_one (sd_if (tm_tp (tp_cmp o_gt (pp_name 2) (pp_name 1))) (sds_one (sd_raise2 rfl B.e_TooMany r tk (am_cons (pm_pp (pp_name 0)) (am_cons (pm_pp (pp_name 1)) am_nil)))) sds_nil)))
theorem sc_is_reduced : FnScope ["row", "one", "other"] ["row"] d_is_reduced.scope := ⟨rfl, rfl, rfl, by decide +kernel, rfl, by decide +kernel, by decide +kernel⟩
theorem ok_is_reduced (B : Fx K mg) (BT : BaseT K mg base)    : Cal P w K mg base 1 d_is_reduced ["row"] F_is_reduced :=
  cal_of (N := ["row", "one", "other"]) (k := 0) (lk := []) B.n_is_reduced B.d_is_reduced rfl sc_is_reduced fun cdv A outer s H E r hg =>
    have SC := sc_is_reduced
    have tk := takes_of (X := cxOf (CX P w) P w K mg base ["row", "one", "other"] d_is_reduced.qual d_is_reduced.scope (He.fAd K d_is_reduced.at_) cdv A outer s H E) rfl rfl rfl rfl
    have ps := passes_of (X := cxOf (CX P w) P w K mg base ["row", "one", "other"] d_is_reduced.qual d_is_reduced.scope (He.fAd K d_is_reduced.at_) cdv A outer s H E) rfl
    (by exact (sds_one (sd_ret (pm_pp (pp_callB (c_all rfl) B.f_all (aa_cons (pp_lc rfl SC.nd (ip_zip B.f_zip (aa_cons (pp_name 0) (aa_cons (pp_slice (pp_name 0) (op_some pp_int) op_none) aa_nil))) (blkOk_by (own := [("one", 1), ("other", 2)]) (by first | rfl | with_unfolding_all rfl)) (fun _ _ _ _ _ => (gp_tup rfl (gps_cons (gp_name 1 SC.nd) (gps_cons (gp_name 2 SC.nd) gps_nil)))) (fun _ _ _ _ _ => tps_nil) (fun _ _ _ _ _ => (pp_cmp (o_ne (Room.u64 r)) (pp_bin o_add (pp_name 1) (pp_name 2)) pp_int))) aa_nil))))))
theorem sc_letters_of : FnScope ["rank", "found", "letter"] ["rank"] d_letters_of.scope := ⟨rfl, rfl, rfl, by decide +kernel, rfl, by decide +kernel, by decide +kernel⟩
theorem ok_letters_of (B : Fx K mg) (BT : BaseT K mg base)    : Cal P w K mg base 1 d_letters_of ["rank"] F_letters_of :=
  cal_of (N := ["rank", "found", "letter"]) (k := 0) (lk := []) B.n_letters_of B.d_letters_of rfl sc_letters_of fun cdv A outer s H E r hg =>
    have SC := sc_letters_of
    have tk := takes_of (X := cxOf (CX P w) P w K mg base ["rank", "found", "letter"] d_letters_of.qual d_letters_of.scope (He.fAd K d_letters_of.at_) cdv A outer s H E) rfl rfl rfl rfl
    have ps := passes_of (X := cxOf (CX P w) P w K mg base ["rank", "found", "letter"] d_letters_of.qual d_letters_of.scope (He.fAd K d_letters_of.at_) cdv A outer s H E) rfl
    (by exact (sds_cons (sd_setO 1 (pm_pp (pp_lst aa_nil)) SC.nd) (sds_cons (sd_for (vs := [2]) ps rfl (ip_range2 B.f_range (aa_cons pp_int (aa_cons (pp_bin o_add (pp_name 0) pp_int) aa_nil))) (gp_name 2 SC.nd) (sds_one (sd_expr (pm_mt 1 l_extend F.slot_list_extend rfl (pm_pp (pp_lst (aa_cons (pp_name 2) (aa_cons (pp_bin o_sub pp_int (pp_name 2)) aa_nil)))))))) (sds_one (sd_retMv 1)))))
theorem sc_reduced_of : FnScope ["row", "found", "letter"] ["row"] d_reduced_of.scope := ⟨rfl, rfl, rfl, by decide +kernel, rfl, by decide +kernel, by decide +kernel⟩
theorem ok_reduced_of (B : Fx K mg) (BT : BaseT K mg base)    : Cal P w K mg base 1 d_reduced_of ["row"] F_reduced_of :=
  cal_of (N := ["row", "found", "letter"]) (k := 0) (lk := []) B.n_reduced_of B.d_reduced_of rfl sc_reduced_of fun cdv A outer s H E r hg =>
    have SC := sc_reduced_of
    have tk := takes_of (X := cxOf (CX P w) P w K mg base ["row", "found", "letter"] d_reduced_of.qual d_reduced_of.scope (He.fAd K d_reduced_of.at_) cdv A outer s H E) rfl rfl rfl rfl
    have ps := passes_of (X := cxOf (CX P w) P w K mg base ["row", "found", "letter"] d_reduced_of.qual d_reduced_of.scope (He.fAd K d_reduced_of.at_) cdv A outer s H E) rfl
    (by exact (sds_cons (sd_setO 1 (pm_pp (pp_lst aa_nil)) SC.nd) (sds_cons (sd_for (vs := [2]) ps rfl (ip_seq (pp_name 0)) (gp_name 2 SC.nd) (sds_one (sd_if (tm_tp (WP.tp (wp_and (tp_cmp (o_ne (Room.u64 r)) (pp_name 1) (pp_lst aa_nil)) (wp_and1 (tp_cmp (o_eq (Room.u64 r)) (pp_bin o_add (pp_ix (pp_name 1) (pp_un o_neg pp_int)) (pp_name 2)) pp_int))))) (sds_one (sd_expr (pm_mt0 1 l_pop F.slot_list_pop rfl))) (sds_one (sd_expr (pm_mt 1 l_append F.slot_list_append rfl (pm_pp (pp_name 2)))))))) (sds_one (sd_ret (pm_pp (pp_callT c_tuple B.f_tuple (aa_cons (pp_name 1) aa_nil))))))))
theorem sc_undone_of : FnScope ["word", "letter"] ["word"] d_undone_of.scope := ⟨rfl, rfl, rfl, by decide +kernel, rfl, by decide +kernel, by decide +kernel⟩
theorem ok_undone_of (B : Fx K mg) (BT : BaseT K mg base)    : Cal P w K mg base 1 d_undone_of ["word"] F_undone_of :=
  cal_of (N := ["word", "letter"]) (k := 0) (lk := []) B.n_undone_of B.d_undone_of rfl sc_undone_of fun cdv A outer s H E r hg =>
    have SC := sc_undone_of
    have tk := takes_of (X := cxOf (CX P w) P w K mg base ["word", "letter"] d_undone_of.qual d_undone_of.scope (He.fAd K d_undone_of.at_) cdv A outer s H E) rfl rfl rfl rfl
    have ps := passes_of (X := cxOf (CX P w) P w K mg base ["word", "letter"] d_undone_of.qual d_undone_of.scope (He.fAd K d_undone_of.at_) cdv A outer s H E) rfl
    (by exact (sds_one (sd_ret (pm_pp (pp_callT c_tuple B.f_tuple (aa_cons (pp_lc rfl SC.nd (ip_seq (pp_rev (pp_name 0))) (blkOk_by (own := [("letter", 1)]) (by first | rfl | with_unfolding_all rfl)) (fun _ _ _ _ _ => (gp_name 1 SC.nd)) (fun _ _ _ _ _ => tps_nil) (fun _ _ _ _ _ => (pp_bin o_sub pp_int (pp_name 1)))) aa_nil))))))
theorem sc_many_words : FnScope ["rank", "length", "found", "turn"] ["rank", "length"] d_many_words.scope := ⟨rfl, rfl, rfl, by decide +kernel, rfl, by decide +kernel, by decide +kernel⟩
theorem ok_many_words (B : Fx K mg) (BT : BaseT K mg base)    : Cal P w K mg base 1 d_many_words ["rank", "length"] F_many_words :=
  cal_of (N := ["rank", "length", "found", "turn"]) (k := 0) (lk := []) B.n_many_words B.d_many_words rfl sc_many_words fun cdv A outer s H E r hg =>
    have SC := sc_many_words
    have tk := takes_of (X := cxOf (CX P w) P w K mg base ["rank", "length", "found", "turn"] d_many_words.qual d_many_words.scope (He.fAd K d_many_words.at_) cdv A outer s H E) rfl rfl rfl rfl
    have ps := passes_of (X := cxOf (CX P w) P w K mg base ["rank", "length", "found", "turn"] d_many_words.qual d_many_words.scope (He.fAd K d_many_words.at_) cdv A outer s H E) rfl
    (by exact (sds_cons (sd_set 2 (pm_pp (pp_if (tp_cmp (o_eq (Room.u64 r)) (pp_name 1) pp_int) pp_int (pp_bin o_mul pp_int (pp_name 0)))) SC.nd) (sds_cons (sd_for (vs := [3]) ps rfl (ip_range2 B.f_range (aa_cons pp_int (aa_cons (pp_name 1) aa_nil))) (gp_name 3 SC.nd) (sds_one (sd_set 2 (pm_pp (pp_bin o_mul (pp_name 2) (pp_bin o_sub (pp_bin o_mul pp_int (pp_name 0)) pp_int))) SC.nd))) (sds_one (sd_ret (pm_pp (pp_name 2)))))))
theorem sc_letters_as_images : FnScope ["rank", "letter"] ["rank"] d_letters_as_images.scope := ⟨rfl, rfl, rfl, by decide +kernel, rfl, by decide +kernel, by decide +kernel⟩
theorem ok_letters_as_images (B : Fx K mg) (BT : BaseT K mg base)    : Cal P w K mg base 1 d_letters_as_images ["rank"] F_letters_as_images :=
  cal_of (N := ["rank", "letter"]) (k := 0) (lk := []) B.n_letters_as_images B.d_letters_as_images rfl sc_letters_as_images fun cdv A outer s H E r hg =>
    have SC := sc_letters_as_images
    have tk := takes_of (X := cxOf (CX P w) P w K mg base ["rank", "letter"] d_letters_as_images.qual d_letters_as_images.scope (He.fAd K d_letters_as_images.at_) cdv A outer s H E) rfl rfl rfl rfl
    have ps := passes_of (X := cxOf (CX P w) P w K mg base ["rank", "letter"] d_letters_as_images.qual d_letters_as_images.scope (He.fAd K d_letters_as_images.at_) cdv A outer s H E) rfl
    (by exact (sds_one (sd_ret (pm_pp (pp_tup (aa_cons (pp_glob (d := .str "images") (v := .str "images") B.c_IMAGES.choose_spec ⟨_, rfl⟩ fun _ _ => rfl) (aa_cons (pp_name 0) (aa_cons (pp_name 0) (aa_cons (pp_callT c_tuple B.f_tuple (aa_cons (pp_lc rfl SC.nd (ip_range2 B.f_range (aa_cons pp_int (aa_cons (pp_bin o_add (pp_name 0) pp_int) aa_nil))) (blkOk_by (own := [("letter", 1)]) (by first | rfl | with_unfolding_all rfl)) (fun _ _ _ _ _ => (gp_name 1 SC.nd)) (fun _ _ _ _ _ => tps_nil) (fun _ _ _ _ _ => (pp_tup (aa_cons (pp_name 1) aa_nil)))) aa_nil)) aa_nil)))))))))
theorem sc__law_pot : FnScope ["script", "k", "cell"] ["script", "k"] d__law_pot.scope := ⟨rfl, rfl, rfl, by decide +kernel, rfl, by decide +kernel, by decide +kernel⟩
theorem ok__law_pot (B : Fx K mg) (BT : BaseT K mg base)    : Cal P w K mg base 1 d__law_pot ["script", "k"] F__law_pot :=
  cal_of (N := ["script", "k", "cell"]) (k := 0) (lk := []) B.n__law_pot B.d__law_pot rfl sc__law_pot fun cdv A outer s H E r hg =>
    have SC := sc__law_pot
    have tk := takes_of (X := cxOf (CX P w) P w K mg base ["script", "k", "cell"] d__law_pot.qual d__law_pot.scope (He.fAd K d__law_pot.at_) cdv A outer s H E) rfl rfl rfl rfl
    have ps := passes_of (X := cxOf (CX P w) P w K mg base ["script", "k", "cell"] d__law_pot.qual d__law_pot.scope (He.fAd K d__law_pot.at_) cdv A outer s H E) rfl
    (by exact (sds_cons (sd_set 2 (pm_pp (pp_if (tp_cmp o_lt (pp_name 1) (pp_callB c_len B.f_len (aa_cons (pp_name 0) aa_nil))) (pp_callB c_abs B.f_abs (aa_cons (pp_ix (pp_name 0) (pp_name 1)) aa_nil)) (pp_bin o_add (pp_bin o_mul pp_int (pp_name 1)) pp_int))) SC.nd) (sds_one (sd_ret (pm_pp (pp_lst (aa_cons (pp_callB (c_max2 rfl) B.f_max (aa_cons pp_int (aa_cons (pp_bin o_sub (pp_name 2) (pp_bin o_pow pp_int pp_int)) aa_nil))) (aa_cons (pp_bin o_add (pp_bin o_mod (pp_callT c_int B.f_int (aa_cons (pp_bin o_add (pp_bin o_add (pp_bin o_mul (pp_bin o_mod (pp_callT c_int B.f_int (aa_cons (pp_name 2) aa_nil)) pp_int) pp_int) (pp_bin o_mul pp_int (pp_name 1))) pp_int) aa_nil)) pp_int) pp_int) aa_nil))))))))
theorem sc__law_draw : FnScope ["pot", "many", "digit"] ["pot", "many"] d__law_draw.scope := ⟨rfl, rfl, rfl, by decide +kernel, rfl, by decide +kernel, by decide +kernel⟩
theorem ok__law_draw (B : Fx K mg) (BT : BaseT K mg base)    : Cal P w K mg base 1 d__law_draw ["pot", "many"] F__law_draw :=
  cal_of (N := ["pot", "many", "digit"]) (k := 0) (lk := [0]) B.n__law_draw B.d__law_draw rfl sc__law_draw fun cdv A outer s H E r hg =>
    have SC := sc__law_draw
    have tk := takes_of (X := cxOf (CX P w) P w K mg base ["pot", "many", "digit"] d__law_draw.qual d__law_draw.scope (He.fAd K d__law_draw.at_) cdv A outer s H E) rfl rfl rfl rfl
    have ps := passes_of (X := cxOf (CX P w) P w K mg base ["pot", "many", "digit"] d__law_draw.qual d__law_draw.scope (He.fAd K d__law_draw.at_) cdv A outer s H E) rfl
    (by exact (sds_cons (sd_if (tm_tp (tp_cmp o_gt (pp_ix (pp_name 0) pp_int) pp_int)) (sds_cons (sd_asg (pm_pp (pp_callB c_divmod B.f_divmod (aa_cons (pp_ix (pp_name 0) pp_int) (aa_cons (pp_name 1) aa_nil)))) (ge_tup rfl (ges_cons (ge_sub 0 pp_int) (ges_cons (ge_gp (vs := [2]) (gp_name 2 SC.nd)) ges_nil)))) (sds_one (sd_ret (pm_pp (pp_name 2))))) sds_nil) (sds_cons (sd_asg (pm_pp (pp_bin o_mod (pp_callT c_int B.f_int (aa_cons (pp_bin o_add (pp_bin o_mul (pp_ix (pp_name 0) pp_int) pp_int) pp_int) aa_nil)) pp_int)) (ge_sub 0 pp_int)) (sds_one (sd_ret (pm_pp (pp_bin o_mod (pp_callT c_int B.f_int (aa_cons (pp_bin o_fdiv (pp_bin o_mod (pp_callT c_int B.f_int (aa_cons (pp_bin o_mul (pp_ix (pp_name 0) pp_int) (pp_ix (pp_name 0) pp_int)) aa_nil)) pp_int) pp_int) aa_nil)) (pp_name 1))))))))
theorem sc__law_reduced : FnScope ["row", "found", "letter"] ["row"] d__law_reduced.scope := ⟨rfl, rfl, rfl, by decide +kernel, rfl, by decide +kernel, by decide +kernel⟩
theorem ok__law_reduced (B : Fx K mg) (BT : BaseT K mg base)    : Cal P w K mg base 1 d__law_reduced ["row"] F__law_reduced :=
  cal_of (N := ["row", "found", "letter"]) (k := 0) (lk := []) B.n__law_reduced B.d__law_reduced rfl sc__law_reduced fun cdv A outer s H E r hg =>
    have SC := sc__law_reduced
    have tk := takes_of (X := cxOf (CX P w) P w K mg base ["row", "found", "letter"] d__law_reduced.qual d__law_reduced.scope (He.fAd K d__law_reduced.at_) cdv A outer s H E) rfl rfl rfl rfl
    have ps := passes_of (X := cxOf (CX P w) P w K mg base ["row", "found", "letter"] d__law_reduced.qual d__law_reduced.scope (He.fAd K d__law_reduced.at_) cdv A outer s H E) rfl
    (by exact (sds_cons (sd_setO 1 (pm_pp (pp_lst aa_nil)) SC.nd) (sds_cons (sd_for (vs := [2]) ps rfl (ip_seq (pp_name 0)) (gp_name 2 SC.nd) (sds_one (sd_if (tm_tp (WP.tp (wp_and (tp_cmp (o_ne (Room.u64 r)) (pp_name 1) (pp_lst aa_nil)) (wp_and1 (tp_cmp (o_eq (Room.u64 r)) (pp_bin o_add (pp_ix (pp_name 1) (pp_un o_neg pp_int)) (pp_name 2)) pp_int))))) (sds_one (sd_expr (pm_mt0 1 l_pop F.slot_list_pop rfl))) (sds_one (sd_expr (pm_mt 1 l_append F.slot_list_append rfl (pm_pp (pp_name 2)))))))) (sds_one (sd_ret (pm_pp (pp_callT c_tuple B.f_tuple (aa_cons (pp_name 1) aa_nil))))))))
theorem sc__law_undone : FnScope ["word", "letter"] ["word"] d__law_undone.scope := ⟨rfl, rfl, rfl, by decide +kernel, rfl, by decide +kernel, by decide +kernel⟩
theorem ok__law_undone (B : Fx K mg) (BT : BaseT K mg base)    : Cal P w K mg base 1 d__law_undone ["word"] F__law_undone :=
  cal_of (N := ["word", "letter"]) (k := 0) (lk := []) B.n__law_undone B.d__law_undone rfl sc__law_undone fun cdv A outer s H E r hg =>
    have SC := sc__law_undone
    have tk := takes_of (X := cxOf (CX P w) P w K mg base ["word", "letter"] d__law_undone.qual d__law_undone.scope (He.fAd K d__law_undone.at_) cdv A outer s H E) rfl rfl rfl rfl
    have ps := passes_of (X := cxOf (CX P w) P w K mg base ["word", "letter"] d__law_undone.qual d__law_undone.scope (He.fAd K d__law_undone.at_) cdv A outer s H E) rfl
    (by exact (sds_one (sd_ret (pm_pp (pp_callT c_tuple B.f_tuple (aa_cons (pp_lc rfl SC.nd (ip_seq (pp_rev (pp_name 0))) (blkOk_by (own := [("letter", 1)]) (by first | rfl | with_unfolding_all rfl)) (fun _ _ _ _ _ => (gp_name 1 SC.nd)) (fun _ _ _ _ _ => tps_nil) (fun _ _ _ _ _ => (pp_bin o_sub pp_int (pp_name 1)))) aa_nil))))))
theorem sc__law_letters : FnScope ["rank", "at"] ["rank"] d__law_letters.scope := ⟨rfl, rfl, rfl, by decide +kernel, rfl, by decide +kernel, by decide +kernel⟩
theorem ok__law_letters (B : Fx K mg) (BT : BaseT K mg base)    : Cal P w K mg base 1 d__law_letters ["rank"] F__law_letters :=
  cal_of (N := ["rank", "at"]) (k := 0) (lk := []) B.n__law_letters B.d__law_letters rfl sc__law_letters fun cdv A outer s H E r hg =>
    have SC := sc__law_letters
    have tk := takes_of (X := cxOf (CX P w) P w K mg base ["rank", "at"] d__law_letters.qual d__law_letters.scope (He.fAd K d__law_letters.at_) cdv A outer s H E) rfl rfl rfl rfl
    have ps := passes_of (X := cxOf (CX P w) P w K mg base ["rank", "at"] d__law_letters.qual d__law_letters.scope (He.fAd K d__law_letters.at_) cdv A outer s H E) rfl
    (by exact (sds_one (sd_ret (pm_pp (pp_bin o_add (pp_lr2 B.f_list B.f_range rfl pp_int (pp_bin o_add (pp_name 0) pp_int)) (pp_lc rfl SC.nd (ip_range2 B.f_range (aa_cons pp_int (aa_cons (pp_bin o_add (pp_name 0) pp_int) aa_nil))) (blkOk_by (own := [("at", 1)]) (by first | rfl | with_unfolding_all rfl)) (fun _ _ _ _ _ => (gp_name 1 SC.nd)) (fun _ _ _ _ _ => tps_nil) (fun _ _ _ _ _ => (pp_bin o_sub pp_int (pp_name 1)))))))))
theorem sc__law_common : FnScope ["one", "other", "near", "far"] ["one", "other"] d__law_common.scope := ⟨rfl, rfl, rfl, by decide +kernel, rfl, by decide +kernel, by decide +kernel⟩
theorem ok__law_common (B : Fx K mg) (BT : BaseT K mg base)    : Cal P w K mg base 1 d__law_common ["one", "other"] F__law_common :=
  cal_of (N := ["one", "other", "near", "far"]) (k := 0) (lk := []) B.n__law_common B.d__law_common rfl sc__law_common fun cdv A outer s H E r hg =>
    have SC := sc__law_common
    have tk := takes_of (X := cxOf (CX P w) P w K mg base ["one", "other", "near", "far"] d__law_common.qual d__law_common.scope (He.fAd K d__law_common.at_) cdv A outer s H E) rfl rfl rfl rfl
    have ps := passes_of (X := cxOf (CX P w) P w K mg base ["one", "other", "near", "far"] d__law_common.qual d__law_common.scope (He.fAd K d__law_common.at_) cdv A outer s H E) rfl
    (by exact (sds_cons (sd_par 2 3 rfl (ar_fz (pm_pp (pp_name 0)) (ar_fz (pm_pp (pp_name 1)) ar_nil)) SC.nd (by with_unfolding_all rfl)) (sds_cons (sd_while FUEL ps (tm_tp (tp_cmp o_gt (pp_name 3) pp_int)) (sds_one (sd_par 2 3 rfl (ar_fz (pm_pp (pp_name 3)) (ar_fz (pm_pp (pp_callT c_int B.f_int (aa_cons (pp_bin o_mod (pp_name 2) (pp_name 3)) aa_nil))) ar_nil)) SC.nd (by with_unfolding_all rfl)))) (sds_one (sd_ret (pm_pp (pp_bin o_fdiv (pp_bin o_mul (pp_name 0) (pp_name 1)) (pp_name 2))))))))
theorem sc_is_count : FnScope ["value"] ["value"] d_is_count.scope := ⟨rfl, rfl, rfl, by decide +kernel, rfl, by decide +kernel, by decide +kernel⟩
theorem ok_is_count (B : Fx K mg) (BT : BaseT K mg base) (h_is_integer : Cal P w K mg base 1 d_is_integer ["value"] F_is_integer)   : Cal P w K mg base 2 d_is_count ["value"] F_is_count :=
  cal_of (N := ["value"]) (k := 1) (lk := []) B.n_is_count B.d_is_count rfl sc_is_count fun cdv A outer s H E r hg =>
    have SC := sc_is_count
    have tk := takes_of (X := cxOf (CX P w) P w K mg base ["value"] d_is_count.qual d_is_count.scope (He.fAd K d_is_count.at_) cdv A outer s H E) rfl rfl rfl rfl
    have ps := passes_of (X := cxOf (CX P w) P w K mg base ["value"] d_is_count.qual d_is_count.scope (He.fAd K d_is_count.at_) cdv A outer s H E) rfl
    (by exact (sds_one (sd_ret (pm_pp (pp_and (pp_fd (h_is_integer.mono (by decide)) rfl bn_is_integer r hg (aa_cons (pp_name 0) aa_nil) (hfl := (aCons_len aNil_len))) (pp_one (pp_cmp o_ge (pp_name 0) pp_int)))))))
theorem sc_is_letter : FnScope ["rank", "value"] ["rank", "value"] d_is_letter.scope := ⟨rfl, rfl, rfl, by decide +kernel, rfl, by decide +kernel, by decide +kernel⟩
theorem ok_is_letter (B : Fx K mg) (BT : BaseT K mg base) (h_is_integer : Cal P w K mg base 1 d_is_integer ["value"] F_is_integer)   : Cal P w K mg base 2 d_is_letter ["rank", "value"] F_is_letter :=
  cal_of (N := ["rank", "value"]) (k := 1) (lk := []) B.n_is_letter B.d_is_letter rfl sc_is_letter fun cdv A outer s H E r hg =>
    have SC := sc_is_letter
    have tk := takes_of (X := cxOf (CX P w) P w K mg base ["rank", "value"] d_is_letter.qual d_is_letter.scope (He.fAd K d_is_letter.at_) cdv A outer s H E) rfl rfl rfl rfl
    have ps := passes_of (X := cxOf (CX P w) P w K mg base ["rank", "value"] d_is_letter.qual d_is_letter.scope (He.fAd K d_is_letter.at_) cdv A outer s H E) rfl
    (by exact (sds_one (sd_ret (pm_pp (pp_and (pp_fd (h_is_integer.mono (by decide)) rfl bn_is_integer r hg (aa_cons (pp_name 1) aa_nil) (hfl := (aCons_len aNil_len))) (pp_one (pp_chain o_le o_le pp_int (pp_callB c_abs B.f_abs (aa_cons (pp_name 1) aa_nil)) (pp_name 0))))))))
theorem sc_want_rank : FnScope ["value"] ["value"] d_want_rank.scope := ⟨rfl, rfl, rfl, by decide +kernel, rfl, by decide +kernel, by decide +kernel⟩
theorem ok_want_rank (B : Fx K mg) (BT : BaseT K mg base) (h_is_integer : Cal P w K mg base 1 d_is_integer ["value"] F_is_integer)   : Cal P w K mg base 2 d_want_rank ["value"] F_want_rank :=
  cal_of (N := ["value"]) (k := 1) (lk := []) B.n_want_rank B.d_want_rank rfl sc_want_rank fun cdv A outer s H E r hg =>
    have SC := sc_want_rank
    have tk := takes_of (X := cxOf (CX P w) P w K mg base ["value"] d_want_rank.qual d_want_rank.scope (He.fAd K d_want_rank.at_) cdv A outer s H E) rfl rfl rfl rfl
    have ps := passes_of (X := cxOf (CX P w) P w K mg base ["value"] d_want_rank.qual d_want_rank.scope (He.fAd K d_want_rank.at_) cdv A outer s H E) rfl
    (by exact (sds_one (sd_if (tm_tp (WP.tp (wp_or (tp_not (tp_val (pp_fd (h_is_integer.mono (by decide)) rfl bn_is_integer r hg (aa_cons (pp_name 0) aa_nil) (hfl := (aCons_len aNil_len))))) (wp_or1 (tp_not (tp_chain o_le o_le pp_int (pp_name 0) (pp_glob (d := .int 4) (v := .int 4) B.c_MOST_RANK.choose_spec ⟨_, rfl⟩ fun _ _ => rfl))))))) (sds_one sd_never) sds_nil)))
theorem sc_want_told : FnScope ["word"] ["word"] d_want_told.scope := ⟨rfl, rfl, rfl, by decide +kernel, rfl, by decide +kernel, by decide +kernel⟩
theorem ok_want_told (B : Fx K mg) (BT : BaseT K mg base) (h_want_at_most : Cal P w K mg base 1 d_want_at_most ["what", "limit", "number"] F_want_at_most)   : Cal P w K mg base 2 d_want_told ["word"] F_want_told :=
  cal_of (N := ["word"]) (k := 1) (lk := []) B.n_want_told B.d_want_told rfl sc_want_told fun cdv A outer s H E r hg =>
    have SC := sc_want_told
    have tk := takes_of (X := cxOf (CX P w) P w K mg base ["word"] d_want_told.qual d_want_told.scope (He.fAd K d_want_told.at_) cdv A outer s H E) rfl rfl rfl rfl
    have ps := passes_of (X := cxOf (CX P w) P w K mg base ["word"] d_want_told.qual d_want_told.scope (He.fAd K d_want_told.at_) cdv A outer s H E) rfl
    (by exact (sds_cons (sd_expr (pm_fd (h_want_at_most.mono (by decide)) rfl bn_want_at_most r hg tk (ar_fz (pm_pp pp_str) (ar_fz (pm_pp (pp_glob (d := .int 60) (v := .int 60) B.c_MOST_WORD.choose_spec ⟨_, rfl⟩ fun _ _ => rfl)) (ar_fz (pm_pp (pp_callB c_len B.f_len (aa_cons (pp_name 0) aa_nil))) ar_nil))))) (sds_one (sd_ret (pm_pp (pp_name 0))))))
theorem sc_put_together : FnScope ["words", "found", "word"] ["words"] d_put_together.scope := ⟨rfl, rfl, rfl, by decide +kernel, rfl, by decide +kernel, by decide +kernel⟩
theorem ok_put_together (B : Fx K mg) (BT : BaseT K mg base) (h_reduced_of : Cal P w K mg base 1 d_reduced_of ["row"] F_reduced_of)   : Cal P w K mg base 2 d_put_together ["words"] F_put_together :=
  cal_of (N := ["words", "found", "word"]) (k := 1) (lk := []) B.n_put_together B.d_put_together rfl sc_put_together fun cdv A outer s H E r hg =>
    have SC := sc_put_together
    have tk := takes_of (X := cxOf (CX P w) P w K mg base ["words", "found", "word"] d_put_together.qual d_put_together.scope (He.fAd K d_put_together.at_) cdv A outer s H E) rfl rfl rfl rfl
    have ps := passes_of (X := cxOf (CX P w) P w K mg base ["words", "found", "word"] d_put_together.qual d_put_together.scope (He.fAd K d_put_together.at_) cdv A outer s H E) rfl
    (by exact (sds_cons (sd_setO 1 (pm_pp (pp_lst aa_nil)) SC.nd) (sds_cons (sd_for (vs := [2]) ps rfl (ip_seq (pp_name 0)) (gp_name 2 SC.nd) (sds_one (sd_expr (pm_mt 1 l_extend F.slot_list_extend rfl (pm_pp (pp_callT c_list B.f_list (aa_cons (pp_name 2) aa_nil))))))) (sds_one (sd_ret (pm_pp (pp_fd (h_reduced_of.mono (by decide)) rfl bn_reduced_of r hg (aa_cons (pp_name 1) aa_nil) (hfl := (aCons_len aNil_len)))))))))
theorem sc_words_from : FnScope ["words", "rank", "found", "word", "letter"] ["words", "rank"] d_words_from.scope := ⟨rfl, rfl, rfl, by decide +kernel, rfl, by decide +kernel, by decide +kernel⟩
theorem ok_words_from (B : Fx K mg) (BT : BaseT K mg base) (h_letters_of : Cal P w K mg base 1 d_letters_of ["rank"] F_letters_of)   : Cal P w K mg base 2 d_words_from ["words", "rank"] F_words_from :=
  cal_of (N := ["words", "rank", "found", "word", "letter"]) (k := 1) (lk := []) B.n_words_from B.d_words_from rfl sc_words_from fun cdv A outer s H E r hg =>
    have SC := sc_words_from
    have tk := takes_of (X := cxOf (CX P w) P w K mg base ["words", "rank", "found", "word", "letter"] d_words_from.qual d_words_from.scope (He.fAd K d_words_from.at_) cdv A outer s H E) rfl rfl rfl rfl
    have ps := passes_of (X := cxOf (CX P w) P w K mg base ["words", "rank", "found", "word", "letter"] d_words_from.qual d_words_from.scope (He.fAd K d_words_from.at_) cdv A outer s H E) rfl
    (by exact (sds_cons (sd_setO 2 (pm_pp (pp_lst aa_nil)) SC.nd) (sds_cons (sd_for (vs := [3]) ps rfl (ip_seq (pp_name 0)) (gp_name 3 SC.nd) (sds_one (sd_expr (pm_mt 2 l_extend F.slot_list_extend rfl (pm_pp (pp_lc rfl SC.nd (ip_seq (pp_fd (h_letters_of.mono (by decide)) rfl bn_letters_of r hg (aa_cons (pp_name 1) aa_nil) (hfl := (aCons_len aNil_len)))) (blkOk_by (own := [("letter", 4)]) (by first | rfl | with_unfolding_all rfl)) (fun _ _ _ _ _ => (gp_name 4 SC.nd)) (fun _ _ _ _ _ => (tps_one (WP.tp (wp_or (tp_cmp (o_eq (Room.u64 r)) (pp_name 3) (pp_tup aa_nil)) (wp_or1 (tp_cmp (o_ne (Room.u64 r)) (pp_bin o_add (pp_ix (pp_name 3) (pp_un o_neg pp_int)) (pp_name 4)) pp_int)))))) (fun _ _ _ _ _ => (pp_bin o_add (pp_name 3) (pp_tup (aa_cons (pp_name 4) aa_nil)))))))))) (sds_one (sd_retMv 2)))))
theorem sc__law_pick : FnScope ["pot", "some"] ["pot", "some"] d__law_pick.scope := ⟨rfl, rfl, rfl, by decide +kernel, rfl, by decide +kernel, by decide +kernel⟩
theorem ok__law_pick (B : Fx K mg) (BT : BaseT K mg base) (h__law_draw : Cal P w K mg base 1 d__law_draw ["pot", "many"] F__law_draw)   : Cal P w K mg base 2 d__law_pick ["pot", "some"] F__law_pick :=
  cal_of (N := ["pot", "some"]) (k := 1) (lk := [0]) B.n__law_pick B.d__law_pick rfl sc__law_pick fun cdv A outer s H E r hg =>
    have SC := sc__law_pick
    have tk := takes_of (X := cxOf (CX P w) P w K mg base ["pot", "some"] d__law_pick.qual d__law_pick.scope (He.fAd K d__law_pick.at_) cdv A outer s H E) rfl rfl rfl rfl
    have ps := passes_of (X := cxOf (CX P w) P w K mg base ["pot", "some"] d__law_pick.qual d__law_pick.scope (He.fAd K d__law_pick.at_) cdv A outer s H E) rfl
    (by exact (sds_one (sd_ret (pm_ix (pm_pp (pp_name 1)) (pm_fd (h__law_draw.mono (by decide)) rfl bn__law_draw r hg tk (ar_bw 0 (ar_fz (pm_pp (pp_callB c_len B.f_len (aa_cons (pp_name 1) aa_nil))) ar_nil)))))))
theorem sc__law_exchange : FnScope ["pot", "rank", "moves", "words", "turn", "at", "spot", "way", "late", "letter", "word"] ["pot", "rank", "moves"] d__law_exchange.scope := ⟨rfl, rfl, rfl, by decide +kernel, rfl, by decide +kernel, by decide +kernel⟩
theorem ok__law_exchange (B : Fx K mg) (BT : BaseT K mg base) (h__law_draw : Cal P w K mg base 1 d__law_draw ["pot", "many"] F__law_draw) (h__law_reduced : Cal P w K mg base 1 d__law_reduced ["row"] F__law_reduced) (h__law_undone : Cal P w K mg base 1 d__law_undone ["word"] F__law_undone)   : Cal P w K mg base 2 d__law_exchange ["pot", "rank", "moves"] F__law_exchange :=
  cal_of (N := ["pot", "rank", "moves", "words", "turn", "at", "spot", "way", "late", "letter", "word"]) (k := 1) (lk := [0]) B.n__law_exchange B.d__law_exchange rfl sc__law_exchange fun cdv A outer s H E r hg =>
    have SC := sc__law_exchange
    have tk := takes_of (X := cxOf (CX P w) P w K mg base ["pot", "rank", "moves", "words", "turn", "at", "spot", "way", "late", "letter", "word"] d__law_exchange.qual d__law_exchange.scope (He.fAd K d__law_exchange.at_) cdv A outer s H E) rfl rfl rfl rfl
    have ps := passes_of (X := cxOf (CX P w) P w K mg base ["pot", "rank", "moves", "words", "turn", "at", "spot", "way", "late", "letter", "word"] d__law_exchange.qual d__law_exchange.scope (He.fAd K d__law_exchange.at_) cdv A outer s H E) rfl
    (by exact (sds_cons (sd_setLc 3 rfl SC.nd (by first | exact sw_true rfl rfl rfl rfl | with_unfolding_all rfl) (ip_range2 B.f_range (aa_cons pp_int (aa_cons (pp_bin o_add (pp_name 1) pp_int) aa_nil))) (blkOk_by (own := [("letter", 9)]) (by first | rfl | with_unfolding_all rfl)) (fun _ _ _ _ _ => (gp_name 9 SC.nd)) (fun _ _ _ _ _ => tps_nil) (fun _ _ _ _ _ => (pp_tup (aa_cons (pp_name 9) aa_nil)))) (sds_cons (sd_for (vs := [4]) ps rfl (ip_range1 B.f_range (aa_cons (pp_name 2) aa_nil)) (gp_name 4 SC.nd) (sds_cons (sd_par3 5 6 7 rfl (ar_fz (pm_fd (h__law_draw.mono (by decide)) rfl bn__law_draw r hg tk (ar_bw 0 (ar_fz (pm_pp (pp_name 1)) ar_nil))) (ar_fz (pm_fd (h__law_draw.mono (by decide)) rfl bn__law_draw r hg tk (ar_bw 0 (ar_fz (pm_pp (pp_name 1)) ar_nil))) (ar_fz (pm_fd (h__law_draw.mono (by decide)) rfl bn__law_draw r hg tk (ar_bw 0 (ar_fz (pm_pp pp_int) ar_nil))) ar_nil))) SC.nd (by with_unfolding_all rfl)) (sds_cons (sd_setO 8 (pm_pp (pp_callT c_list B.f_list (aa_cons (pp_name 3) aa_nil))) SC.nd) (sds_cons (sd_if (tm_tp (tp_cmp (o_eq (Room.u64 r)) (pp_name 7) pp_int)) (sds_one (sd_asg (pm_pp (pp_fd (h__law_undone.mono (by decide)) rfl bn__law_undone r hg (aa_cons (pp_ix (pp_name 8) (pp_name 5)) aa_nil) (hfl := (aCons_len aNil_len)))) (ge_sub 8 (pp_name 5)))) sds_nil) (sds_cons (sd_if (tm_tp (tp_cmp (o_eq (Room.u64 r)) (pp_name 7) pp_int)) (sds_one (sd_asg (pm_pp (pp_tup (aa_cons (pp_ix (pp_name 8) (pp_name 6)) (aa_cons (pp_ix (pp_name 8) (pp_name 5)) aa_nil)))) (ge_tup rfl (ges_cons (ge_sub 8 (pp_name 5)) (ges_cons (ge_sub 8 (pp_name 6)) ges_nil))))) sds_nil) (sds_cons (sd_if (tm_tp (WP.tp (wp_and (tp_cmp (o_eq (Room.u64 r)) (pp_name 7) pp_int) (wp_and1 (tp_cmp (o_ne (Room.u64 r)) (pp_name 5) (pp_name 6)))))) (sds_one (sd_asg (pm_pp (pp_fd (h__law_reduced.mono (by decide)) rfl bn__law_reduced r hg (aa_cons (pp_bin o_add (pp_ix (pp_name 8) (pp_name 5)) (pp_ix (pp_name 8) (pp_name 6))) aa_nil) (hfl := (aCons_len aNil_len)))) (ge_sub 8 (pp_name 5)))) sds_nil) (sds_cons (sd_if (tm_tp (WP.tp (wp_and (tp_cmp (o_eq (Room.u64 r)) (pp_name 7) pp_int) (wp_and1 (tp_cmp (o_ne (Room.u64 r)) (pp_name 5) (pp_name 6)))))) (sds_one (sd_asg (pm_pp (pp_fd (h__law_reduced.mono (by decide)) rfl bn__law_reduced r hg (aa_cons (pp_bin o_add (pp_fd (h__law_undone.mono (by decide)) rfl bn__law_undone r hg (aa_cons (pp_ix (pp_name 8) (pp_name 6)) aa_nil) (hfl := (aCons_len aNil_len))) (pp_ix (pp_name 8) (pp_name 5))) aa_nil) (hfl := (aCons_len aNil_len)))) (ge_sub 8 (pp_name 5)))) sds_nil) (sds_one (sd_set 3 (pm_ifM (tm_tp (tp_cmp o_le (pp_callB (c_sum rfl) B.f_sum (aa_cons (pp_lc rfl SC.nd (ip_seq (pp_name 8)) (blkOk_by (own := [("word", 10)]) (by first | rfl | with_unfolding_all rfl)) (fun _ _ _ _ _ => (gp_name 10 SC.nd)) (fun _ _ _ _ _ => tps_nil) (fun _ _ _ _ _ => (pp_callB c_len B.f_len (aa_cons (pp_name 10) aa_nil)))) aa_nil)) pp_int)) (pm_mv 8) (pm_pp (pp_name 3))) SC.nd))))))))) (sds_one (sd_ret (pm_pp (pp_tup (aa_cons pp_str (aa_cons (pp_name 1) (aa_cons (pp_name 1) (aa_cons (pp_callT c_tuple B.f_tuple (aa_cons (pp_name 3) aa_nil)) aa_nil)))))))))))
theorem sc__law_image : FnScope ["images", "word", "found", "letter", "one"] ["images", "word"] d__law_image.scope := ⟨rfl, rfl, rfl, by decide +kernel, rfl, by decide +kernel, by decide +kernel⟩
theorem ok__law_image (B : Fx K mg) (BT : BaseT K mg base) (h__law_reduced : Cal P w K mg base 1 d__law_reduced ["row"] F__law_reduced) (h__law_undone : Cal P w K mg base 1 d__law_undone ["word"] F__law_undone)   : Cal P w K mg base 2 d__law_image ["images", "word"] F__law_image :=
  cal_of (N := ["images", "word", "found", "letter", "one"]) (k := 1) (lk := []) B.n__law_image B.d__law_image rfl sc__law_image fun cdv A outer s H E r hg =>
    have SC := sc__law_image
    have tk := takes_of (X := cxOf (CX P w) P w K mg base ["images", "word", "found", "letter", "one"] d__law_image.qual d__law_image.scope (He.fAd K d__law_image.at_) cdv A outer s H E) rfl rfl rfl rfl
    have ps := passes_of (X := cxOf (CX P w) P w K mg base ["images", "word", "found", "letter", "one"] d__law_image.qual d__law_image.scope (He.fAd K d__law_image.at_) cdv A outer s H E) rfl
    (by exact (sds_cons (sd_set 2 (pm_pp (pp_tup aa_nil)) SC.nd) (sds_cons (sd_for (vs := [3]) ps rfl (ip_seq (pp_name 1)) (gp_name 3 SC.nd) (sds_cons (sd_set 4 (pm_pp (pp_ix (pp_ix (pp_name 0) pp_int) (pp_bin o_sub (pp_callB c_abs B.f_abs (aa_cons (pp_name 3) aa_nil)) pp_int))) SC.nd) (sds_one (sd_set 2 (pm_pp (pp_fd (h__law_reduced.mono (by decide)) rfl bn__law_reduced r hg (aa_cons (pp_bin o_add (pp_name 2) (pp_if (tp_cmp o_gt (pp_name 3) pp_int) (pp_name 4) (pp_fd (h__law_undone.mono (by decide)) rfl bn__law_undone r hg (aa_cons (pp_name 4) aa_nil) (hfl := (aCons_len aNil_len))))) aa_nil) (hfl := (aCons_len aNil_len)))) SC.nd)))) (sds_one (sd_ret (pm_pp (pp_name 2)))))))
theorem sc__law_letters_only : FnScope ["pot", "rank", "left", "found", "letter", "one"] ["pot", "rank"] d__law_letters_only.scope := ⟨rfl, rfl, rfl, by decide +kernel, rfl, by decide +kernel, by decide +kernel⟩
theorem ok__law_letters_only (B : Fx K mg) (BT : BaseT K mg base) (h__law_draw : Cal P w K mg base 1 d__law_draw ["pot", "many"] F__law_draw)   : Cal P w K mg base 2 d__law_letters_only ["pot", "rank"] F__law_letters_only :=
  cal_of (N := ["pot", "rank", "left", "found", "letter", "one"]) (k := 1) (lk := [0]) B.n__law_letters_only B.d__law_letters_only rfl sc__law_letters_only fun cdv A outer s H E r hg =>
    have SC := sc__law_letters_only
    have tk := takes_of (X := cxOf (CX P w) P w K mg base ["pot", "rank", "left", "found", "letter", "one"] d__law_letters_only.qual d__law_letters_only.scope (He.fAd K d__law_letters_only.at_) cdv A outer s H E) rfl rfl rfl rfl
    have ps := passes_of (X := cxOf (CX P w) P w K mg base ["pot", "rank", "left", "found", "letter", "one"] d__law_letters_only.qual d__law_letters_only.scope (He.fAd K d__law_letters_only.at_) cdv A outer s H E) rfl
    (by exact (sds_cons (sd_parO 2 3 rfl (pm_pp (pp_lr2 B.f_list B.f_range rfl pp_int (pp_bin o_add (pp_name 1) pp_int))) (pm_pp (pp_lst aa_nil)) SC.nd (by with_unfolding_all rfl)) (sds_cons (sd_for (vs := [4]) ps rfl (ip_range1 B.f_range (aa_cons (pp_name 1) aa_nil)) (gp_name 4 SC.nd) (sds_cons (sd_set 5 (pm_mt 2 l_popAt F.slot_list_pop rfl (pm_fd (h__law_draw.mono (by decide)) rfl bn__law_draw r hg tk (ar_bw 0 (ar_fz (pm_pp (pp_callB c_len B.f_len (aa_cons (pp_name 2) aa_nil))) ar_nil)))) SC.nd) (sds_one (sd_expr (pm_mt 3 l_append F.slot_list_append rfl (pm_tup (am_cons (pm_ifM (tm_cmp (o_eq (Room.u64 r)) (pm_fd (h__law_draw.mono (by decide)) rfl bn__law_draw r hg tk (ar_bw 0 (ar_fz (pm_pp pp_int) ar_nil))) (pm_pp pp_int)) (pm_pp (pp_name 5)) (pm_pp (pp_bin o_sub pp_int (pp_name 5)))) am_nil))))))) (sds_one (sd_ret (pm_pp (pp_tup (aa_cons pp_str (aa_cons (pp_name 1) (aa_cons (pp_name 1) (aa_cons (pp_callT c_tuple B.f_tuple (aa_cons (pp_name 3) aa_nil)) aa_nil)))))))))))
theorem sc__law_rings : FnScope ["images", "found", "letter", "here", "many", "sign", "late"] ["images"] d__law_rings.scope := ⟨rfl, rfl, rfl, by decide +kernel, rfl, by decide +kernel, by decide +kernel⟩
theorem ok__law_rings (B : Fx K mg) (BT : BaseT K mg base) (h__law_common : Cal P w K mg base 1 d__law_common ["one", "other"] F__law_common)   : Cal P w K mg base 2 d__law_rings ["images"] F__law_rings :=
  cal_of (N := ["images", "found", "letter", "here", "many", "sign", "late"]) (k := 1) (lk := []) B.n__law_rings B.d__law_rings rfl sc__law_rings fun cdv A outer s H E r hg =>
    have SC := sc__law_rings
    have tk := takes_of (X := cxOf (CX P w) P w K mg base ["images", "found", "letter", "here", "many", "sign", "late"] d__law_rings.qual d__law_rings.scope (He.fAd K d__law_rings.at_) cdv A outer s H E) rfl rfl rfl rfl
    have ps := passes_of (X := cxOf (CX P w) P w K mg base ["images", "found", "letter", "here", "many", "sign", "late"] d__law_rings.qual d__law_rings.scope (He.fAd K d__law_rings.at_) cdv A outer s H E) rfl
    (by exact (sds_cons (sd_set 1 (pm_pp pp_int) SC.nd) (sds_cons (sd_for (vs := [2]) ps rfl (ip_range2 B.f_range (aa_cons pp_int (aa_cons (pp_bin o_add (pp_ix (pp_name 0) pp_int) pp_int) aa_nil))) (gp_name 2 SC.nd) (sds_cons (sd_par3 3 4 5 rfl (ar_fz (pm_pp (pp_name 2)) (ar_fz (pm_pp pp_int) (ar_fz (pm_pp pp_int) ar_nil))) SC.nd (by with_unfolding_all rfl)) (sds_cons (sd_while FUEL ps (tm_tp (WP.tp (wp_or (tp_cmp (o_eq (Room.u64 r)) (pp_name 4) pp_int) (wp_or1 (tp_cmp (o_ne (Room.u64 r)) (pp_name 3) (pp_name 2)))))) (sds_cons (sd_set 6 (pm_pp (pp_ix (pp_ix (pp_ix (pp_name 0) pp_int) (pp_bin o_sub (pp_name 3) pp_int)) pp_int)) SC.nd) (sds_one (sd_par3 3 4 5 rfl (ar_fz (pm_pp (pp_callB c_abs B.f_abs (aa_cons (pp_name 6) aa_nil))) (ar_fz (pm_pp (pp_bin o_add (pp_name 4) pp_int)) (ar_fz (pm_pp (pp_bin o_mul (pp_name 5) (pp_if (tp_cmp o_gt (pp_name 6) pp_int) pp_int (pp_un o_neg pp_int)))) ar_nil))) SC.nd (by with_unfolding_all rfl))))) (sds_one (sd_set 1 (pm_pp (pp_fd (h__law_common.mono (by decide)) rfl bn__law_common r hg (aa_cons (pp_name 1) (aa_cons (pp_if (tp_cmp (o_eq (Room.u64 r)) (pp_name 5) pp_int) (pp_name 4) (pp_bin o_mul pp_int (pp_name 4))) aa_nil)) (hfl := (aCons_len (aCons_len aNil_len))))) SC.nd))))) (sds_one (sd_ret (pm_pp (pp_name 1)))))))
theorem sc_want_many : FnScope ["value", "most", "least"] ["value", "most", "least"] d_want_many.scope := ⟨rfl, rfl, rfl, by decide +kernel, rfl, by decide +kernel, by decide +kernel⟩
theorem ok_want_many_D1 (B : Fx K mg) (BT : BaseT K mg base) (h_is_count : Cal P w K mg base 2 d_is_count ["value"] F_is_count)   : CalB P w K mg base 3 d_want_many ["value", "most", "least"] [0] F_want_many :=
  fd_ofD (ns := [0]) (n := 2) (j := 0) (N := ["value", "most", "least"]) (k := 2) (lk := []) B.n_want_many B.d_want_many rfl (by decide) rfl bn_want_many_D1 sc_want_many fun cdv A outer s H E r hg =>
    have SC := sc_want_many
    have tk := takes_of (X := cxOf (CX P w) P w K mg base ["value", "most", "least"] d_want_many.qual d_want_many.scope (He.fAd K d_want_many.at_) cdv A outer s H E) rfl rfl rfl rfl
    have ps := passes_of (X := cxOf (CX P w) P w K mg base ["value", "most", "least"] d_want_many.qual d_want_many.scope (He.fAd K d_want_many.at_) cdv A outer s H E) rfl
    (by exact (sds_one (sd_if (tm_tp (WP.tp (wp_or (tp_not (tp_val (pp_fd (h_is_count.mono (by decide)) rfl bn_is_count r hg (aa_cons (pp_name 0) aa_nil) (hfl := (aCons_len aNil_len))))) (wp_or1 (tp_not (tp_chain o_le o_le (pp_name 2) (pp_name 0) (pp_name 1))))))) (sds_one sd_never) sds_nil)))
theorem sc_is_row : FnScope ["rank", "value", "one"] ["rank", "value"] d_is_row.scope := ⟨rfl, rfl, rfl, by decide +kernel, rfl, by decide +kernel, by decide +kernel⟩
theorem ok_is_row (B : Fx K mg) (BT : BaseT K mg base) (h_is_letter : Cal P w K mg base 2 d_is_letter ["rank", "value"] F_is_letter)   : Cal P w K mg base 3 d_is_row ["rank", "value"] F_is_row :=
  cal_of (N := ["rank", "value", "one"]) (k := 2) (lk := []) B.n_is_row B.d_is_row rfl sc_is_row fun cdv A outer s H E r hg =>
    have SC := sc_is_row
    have tk := takes_of (X := cxOf (CX P w) P w K mg base ["rank", "value", "one"] d_is_row.qual d_is_row.scope (He.fAd K d_is_row.at_) cdv A outer s H E) rfl rfl rfl rfl
    have ps := passes_of (X := cxOf (CX P w) P w K mg base ["rank", "value", "one"] d_is_row.qual d_is_row.scope (He.fAd K d_is_row.at_) cdv A outer s H E) rfl
    (by exact (sds_one (sd_ret (pm_pp (pp_and (pp_isi .tuple B.f_isinstance B.f_tuple (pp_name 1)) (pp_and (pp_cmp o_le (pp_callB c_len B.f_len (aa_cons (pp_name 1) aa_nil)) (pp_glob (d := .int 240) (v := .int 240) B.c_MOST_ROW.choose_spec ⟨_, rfl⟩ fun _ _ => rfl)) (pp_one (pp_callB (c_all rfl) B.f_all (aa_cons (pp_lc rfl SC.nd (ip_seq (pp_name 1)) (blkOk_by (own := [("one", 2)]) (by first | rfl | with_unfolding_all rfl)) (fun _ _ _ _ _ => (gp_name 2 SC.nd)) (fun _ _ _ _ _ => tps_nil) (fun _ _ _ _ _ => (pp_fd (h_is_letter.mono (by decide)) rfl bn_is_letter r hg (aa_cons (pp_name 0) (aa_cons (pp_name 2) aa_nil)) (hfl := (aCons_len (aCons_len aNil_len)))))) aa_nil)))))))))
theorem sc_image_of : FnScope ["images", "word", "words", "letter"] ["images", "word"] d_image_of.scope := ⟨rfl, rfl, rfl, by decide +kernel, rfl, by decide +kernel, by decide +kernel⟩
theorem ok_image_of (B : Fx K mg) (BT : BaseT K mg base) (h_put_together : Cal P w K mg base 2 d_put_together ["words"] F_put_together) (h_undone_of : Cal P w K mg base 1 d_undone_of ["word"] F_undone_of)   : Cal P w K mg base 3 d_image_of ["images", "word"] F_image_of :=
  cal_of (N := ["images", "word", "words", "letter"]) (k := 2) (lk := []) B.n_image_of B.d_image_of rfl sc_image_of fun cdv A outer s H E r hg =>
    have SC := sc_image_of
    have tk := takes_of (X := cxOf (CX P w) P w K mg base ["images", "word", "words", "letter"] d_image_of.qual d_image_of.scope (He.fAd K d_image_of.at_) cdv A outer s H E) rfl rfl rfl rfl
    have ps := passes_of (X := cxOf (CX P w) P w K mg base ["images", "word", "words", "letter"] d_image_of.qual d_image_of.scope (He.fAd K d_image_of.at_) cdv A outer s H E) rfl
    (by exact (sds_cons (sd_set 2 (pm_pp (pp_ix (pp_name 0) pp_int)) SC.nd) (sds_one (sd_ret (pm_pp (pp_fd (h_put_together.mono (by decide)) rfl bn_put_together r hg (aa_cons (pp_lc rfl SC.nd (ip_seq (pp_name 1)) (blkOk_by (own := [("letter", 3)]) (by first | rfl | with_unfolding_all rfl)) (fun _ _ _ _ _ => (gp_name 3 SC.nd)) (fun _ _ _ _ _ => tps_nil) (fun _ _ _ _ _ => (pp_if (tp_cmp o_gt (pp_name 3) pp_int) (pp_ix (pp_name 2) (pp_bin o_sub (pp_name 3) pp_int)) (pp_fd (h_undone_of.mono (by decide)) rfl bn_undone_of r hg (aa_cons (pp_ix (pp_name 2) (pp_bin o_sub (pp_un o_neg (pp_name 3)) pp_int)) aa_nil) (hfl := (aCons_len aNil_len)))))) aa_nil) (hfl := (aCons_len aNil_len))))))))
theorem sc_fits_images : FnScope ["words", "word"] ["words"] d_fits_images.scope := ⟨rfl, rfl, rfl, by decide +kernel, rfl, by decide +kernel, by decide +kernel⟩
theorem ok_fits_images (B : Fx K mg) (BT : BaseT K mg base) (h_want_at_most : Cal P w K mg base 1 d_want_at_most ["what", "limit", "number"] F_want_at_most) (h_want_told : Cal P w K mg base 2 d_want_told ["word"] F_want_told)   : Cal P w K mg base 3 d_fits_images ["words"] F_fits_images :=
  cal_of (N := ["words", "word"]) (k := 2) (lk := []) B.n_fits_images B.d_fits_images rfl sc_fits_images fun cdv A outer s H E r hg =>
    have SC := sc_fits_images
    have tk := takes_of (X := cxOf (CX P w) P w K mg base ["words", "word"] d_fits_images.qual d_fits_images.scope (He.fAd K d_fits_images.at_) cdv A outer s H E) rfl rfl rfl rfl
    have ps := passes_of (X := cxOf (CX P w) P w K mg base ["words", "word"] d_fits_images.qual d_fits_images.scope (He.fAd K d_fits_images.at_) cdv A outer s H E) rfl
    (by exact (sds_cons (sd_for (vs := [1]) ps rfl (ip_seq (pp_name 0)) (gp_name 1 SC.nd) (sds_one (sd_expr (pm_fd (h_want_told.mono (by decide)) rfl bn_want_told r hg tk (ar_fz (pm_pp (pp_name 1)) ar_nil))))) (sds_cons (sd_expr (pm_fd (h_want_at_most.mono (by decide)) rfl bn_want_at_most r hg tk (ar_fz (pm_pp pp_str) (ar_fz (pm_pp (pp_glob (d := .int 48) (v := .int 48) B.c_MOST_LETTERS.choose_spec ⟨_, rfl⟩ fun _ _ => rfl)) (ar_fz (pm_pp (pp_callB (c_sum rfl) B.f_sum (aa_cons (pp_lc rfl SC.nd (ip_seq (pp_name 0)) (blkOk_by (own := [("word", 1)]) (by first | rfl | with_unfolding_all rfl)) (fun _ _ _ _ _ => (gp_name 1 SC.nd)) (fun _ _ _ _ _ => tps_nil) (fun _ _ _ _ _ => (pp_callB c_len B.f_len (aa_cons (pp_name 1) aa_nil)))) aa_nil))) ar_nil))))) (sds_one (sd_ret (pm_pp (pp_name 0)))))))
theorem sc__law_word : FnScope ["pot", "rank", "most", "turn"] ["pot", "rank", "most"] d__law_word.scope := ⟨rfl, rfl, rfl, by decide +kernel, rfl, by decide +kernel, by decide +kernel⟩
theorem ok__law_word (B : Fx K mg) (BT : BaseT K mg base) (h__law_draw : Cal P w K mg base 1 d__law_draw ["pot", "many"] F__law_draw) (h__law_letters : Cal P w K mg base 1 d__law_letters ["rank"] F__law_letters) (h__law_pick : Cal P w K mg base 2 d__law_pick ["pot", "some"] F__law_pick) (h__law_reduced : Cal P w K mg base 1 d__law_reduced ["row"] F__law_reduced)   : Cal P w K mg base 3 d__law_word ["pot", "rank", "most"] F__law_word :=
  cal_of (N := ["pot", "rank", "most", "turn"]) (k := 2) (lk := [0]) B.n__law_word B.d__law_word rfl sc__law_word fun cdv A outer s H E r hg =>
    have SC := sc__law_word
    have tk := takes_of (X := cxOf (CX P w) P w K mg base ["pot", "rank", "most", "turn"] d__law_word.qual d__law_word.scope (He.fAd K d__law_word.at_) cdv A outer s H E) rfl rfl rfl rfl
    have ps := passes_of (X := cxOf (CX P w) P w K mg base ["pot", "rank", "most", "turn"] d__law_word.qual d__law_word.scope (He.fAd K d__law_word.at_) cdv A outer s H E) rfl
    (by exact (sds_one (sd_ret (pm_fd (h__law_reduced.mono (by decide)) rfl bn__law_reduced r hg tk (ar_fz (pm_lcR B.f_range rfl SC.nd (pm_fd (h__law_draw.mono (by decide)) rfl bn__law_draw r hg tk (ar_bw 0 (ar_fz (pm_pp (pp_bin o_add (pp_name 2) pp_int)) ar_nil))) (blkOk_by (own := [("turn", 3)]) (by first | rfl | with_unfolding_all rfl)) (fun _ _ _ _ _ => (gp_name 3 SC.nd)) (fun _ _ _ _ _ => tps_nil) (fun _ _ _ _ _ => (pm_fd (h__law_pick.mono (by decide)) rfl bn__law_pick r hg takes_no (ar_bw 0 (ar_fz (pm_pp (pp_fd (h__law_letters.mono (by decide)) rfl bn__law_letters r hg (aa_cons (pp_name 1) aa_nil) (hfl := (aCons_len aNil_len)))) ar_nil))))) ar_nil)))))
theorem sc__law_powers : FnScope ["images", "many", "words", "turn", "letter", "word"] ["images", "many"] d__law_powers.scope := ⟨rfl, rfl, rfl, by decide +kernel, rfl, by decide +kernel, by decide +kernel⟩
theorem ok__law_powers (B : Fx K mg) (BT : BaseT K mg base) (h__law_image : Cal P w K mg base 2 d__law_image ["images", "word"] F__law_image)   : Cal P w K mg base 3 d__law_powers ["images", "many"] F__law_powers :=
  cal_of (N := ["images", "many", "words", "turn", "letter", "word"]) (k := 2) (lk := []) B.n__law_powers B.d__law_powers rfl sc__law_powers fun cdv A outer s H E r hg =>
    have SC := sc__law_powers
    have tk := takes_of (X := cxOf (CX P w) P w K mg base ["images", "many", "words", "turn", "letter", "word"] d__law_powers.qual d__law_powers.scope (He.fAd K d__law_powers.at_) cdv A outer s H E) rfl rfl rfl rfl
    have ps := passes_of (X := cxOf (CX P w) P w K mg base ["images", "many", "words", "turn", "letter", "word"] d__law_powers.qual d__law_powers.scope (He.fAd K d__law_powers.at_) cdv A outer s H E) rfl
    (by exact (sds_cons (sd_set 2 (pm_pp (pp_callT c_tuple B.f_tuple (aa_cons (pp_lc rfl SC.nd (ip_range2 B.f_range (aa_cons pp_int (aa_cons (pp_bin o_add (pp_ix (pp_name 0) pp_int) pp_int) aa_nil))) (blkOk_by (own := [("letter", 4)]) (by first | rfl | with_unfolding_all rfl)) (fun _ _ _ _ _ => (gp_name 4 SC.nd)) (fun _ _ _ _ _ => tps_nil) (fun _ _ _ _ _ => (pp_tup (aa_cons (pp_name 4) aa_nil)))) aa_nil))) SC.nd) (sds_cons (sd_for (vs := [3]) ps rfl (ip_range1 B.f_range (aa_cons (pp_name 1) aa_nil)) (gp_name 3 SC.nd) (sds_cons (sd_set 2 (pm_pp (pp_callT c_tuple B.f_tuple (aa_cons (pp_lc rfl SC.nd (ip_seq (pp_name 2)) (blkOk_by (own := [("word", 5)]) (by first | rfl | with_unfolding_all rfl)) (fun _ _ _ _ _ => (gp_name 5 SC.nd)) (fun _ _ _ _ _ => tps_nil) (fun _ _ _ _ _ => (pp_fd (h__law_image.mono (by decide)) rfl bn__law_image r hg (aa_cons (pp_name 0) (aa_cons (pp_name 5) aa_nil)) (hfl := (aCons_len (aCons_len aNil_len)))))) aa_nil))) SC.nd) (sds_cons (sd_if (tm_tp (tp_cmp o_gt (pp_callB (c_maxL rfl) B.f_max (aa_cons (pp_lc rfl SC.nd (ip_seq (pp_name 2)) (blkOk_by (own := [("word", 5)]) (by first | rfl | with_unfolding_all rfl)) (fun _ _ _ _ _ => (gp_name 5 SC.nd)) (fun _ _ _ _ _ => tps_nil) (fun _ _ _ _ _ => (pp_callB c_len B.f_len (aa_cons (pp_name 5) aa_nil)))) aa_nil)) pp_int)) (sds_one (sd_ret (pm_pp (pp_lst (aa_cons pp_str (aa_cons pp_int aa_nil)))))) sds_nil) (sds_one (sd_if (tm_tp (tp_cmp o_gt (pp_callB (c_sum rfl) B.f_sum (aa_cons (pp_lc rfl SC.nd (ip_seq (pp_name 2)) (blkOk_by (own := [("word", 5)]) (by first | rfl | with_unfolding_all rfl)) (fun _ _ _ _ _ => (gp_name 5 SC.nd)) (fun _ _ _ _ _ => tps_nil) (fun _ _ _ _ _ => (pp_callB c_len B.f_len (aa_cons (pp_name 5) aa_nil)))) aa_nil)) pp_int)) (sds_one (sd_ret (pm_pp (pp_lst (aa_cons pp_str (aa_cons pp_int aa_nil)))))) sds_nil))))) (sds_one (sd_ret (pm_pp (pp_tup (aa_cons pp_str (aa_cons (pp_ix (pp_name 0) pp_int) (aa_cons (pp_ix (pp_name 0) pp_int) (aa_cons (pp_name 2) aa_nil)))))))))))
theorem sc__law_least : FnScope ["images", "same", "words", "many", "letter", "word"] ["images"] d__law_least.scope := ⟨rfl, rfl, rfl, by decide +kernel, rfl, by decide +kernel, by decide +kernel⟩
theorem ok__law_least (B : Fx K mg) (BT : BaseT K mg base) (h__law_image : Cal P w K mg base 2 d__law_image ["images", "word"] F__law_image)   : Cal P w K mg base 3 d__law_least ["images"] F__law_least :=
  cal_of (N := ["images", "same", "words", "many", "letter", "word"]) (k := 2) (lk := []) B.n__law_least B.d__law_least rfl sc__law_least fun cdv A outer s H E r hg =>
    have SC := sc__law_least
    have tk := takes_of (X := cxOf (CX P w) P w K mg base ["images", "same", "words", "many", "letter", "word"] d__law_least.qual d__law_least.scope (He.fAd K d__law_least.at_) cdv A outer s H E) rfl rfl rfl rfl
    have ps := passes_of (X := cxOf (CX P w) P w K mg base ["images", "same", "words", "many", "letter", "word"] d__law_least.qual d__law_least.scope (He.fAd K d__law_least.at_) cdv A outer s H E) rfl
    (by exact (sds_cons (sd_set 1 (pm_pp (pp_callT c_tuple B.f_tuple (aa_cons (pp_lc rfl SC.nd (ip_range2 B.f_range (aa_cons pp_int (aa_cons (pp_bin o_add (pp_ix (pp_name 0) pp_int) pp_int) aa_nil))) (blkOk_by (own := [("letter", 4)]) (by first | rfl | with_unfolding_all rfl)) (fun _ _ _ _ _ => (gp_name 4 SC.nd)) (fun _ _ _ _ _ => tps_nil) (fun _ _ _ _ _ => (pp_tup (aa_cons (pp_name 4) aa_nil)))) aa_nil))) SC.nd) (sds_cons (sd_set 2 (pm_pp (pp_ix (pp_name 0) pp_int)) SC.nd) (sds_cons (sd_for (vs := [3]) ps rfl (ip_range2 B.f_range (aa_cons pp_int (aa_cons pp_int aa_nil))) (gp_name 3 SC.nd) (sds_cons (sd_if (tm_tp (tp_cmp (o_eq (Room.u64 r)) (pp_name 2) (pp_name 1))) (sds_one (sd_ret (pm_pp (pp_name 3)))) sds_nil) (sds_cons (sd_if (tm_tp (tp_cmp o_gt (pp_callB (c_sum rfl) B.f_sum (aa_cons (pp_lc rfl SC.nd (ip_seq (pp_name 2)) (blkOk_by (own := [("word", 5)]) (by first | rfl | with_unfolding_all rfl)) (fun _ _ _ _ _ => (gp_name 5 SC.nd)) (fun _ _ _ _ _ => tps_nil) (fun _ _ _ _ _ => (pp_callB c_len B.f_len (aa_cons (pp_name 5) aa_nil)))) aa_nil)) pp_int)) (sds_one (sd_ret (pm_pp pp_non))) sds_nil) (sds_one (sd_set 2 (pm_pp (pp_callT c_tuple B.f_tuple (aa_cons (pp_lc rfl SC.nd (ip_seq (pp_name 2)) (blkOk_by (own := [("word", 5)]) (by first | rfl | with_unfolding_all rfl)) (fun _ _ _ _ _ => (gp_name 5 SC.nd)) (fun _ _ _ _ _ => tps_nil) (fun _ _ _ _ _ => (pp_fd (h__law_image.mono (by decide)) rfl bn__law_image r hg (aa_cons (pp_name 0) (aa_cons (pp_name 5) aa_nil)) (hfl := (aCons_len (aCons_len aNil_len)))))) aa_nil))) SC.nd))))) (sds_one (sd_ret (pm_pp pp_non)))))))
theorem sc_is_word : FnScope ["rank", "value"] ["rank", "value"] d_is_word.scope := ⟨rfl, rfl, rfl, by decide +kernel, rfl, by decide +kernel, by decide +kernel⟩
theorem ok_is_word (B : Fx K mg) (BT : BaseT K mg base) (h_is_reduced : Cal P w K mg base 1 d_is_reduced ["row"] F_is_reduced) (h_is_row : Cal P w K mg base 3 d_is_row ["rank", "value"] F_is_row)   : Cal P w K mg base 4 d_is_word ["rank", "value"] F_is_word :=
  cal_of (N := ["rank", "value"]) (k := 3) (lk := []) B.n_is_word B.d_is_word rfl sc_is_word fun cdv A outer s H E r hg =>
    have SC := sc_is_word
    have tk := takes_of (X := cxOf (CX P w) P w K mg base ["rank", "value"] d_is_word.qual d_is_word.scope (He.fAd K d_is_word.at_) cdv A outer s H E) rfl rfl rfl rfl
    have ps := passes_of (X := cxOf (CX P w) P w K mg base ["rank", "value"] d_is_word.qual d_is_word.scope (He.fAd K d_is_word.at_) cdv A outer s H E) rfl
    (by exact (sds_one (sd_ret (pm_pp (pp_and (pp_fd (h_is_row.mono (by decide)) rfl bn_is_row r hg (aa_cons (pp_name 0) (aa_cons (pp_name 1) aa_nil)) (hfl := (aCons_len (aCons_len aNil_len)))) (pp_and (pp_cmp o_le (pp_callB c_len B.f_len (aa_cons (pp_name 1) aa_nil)) (pp_glob (d := .int 60) (v := .int 60) B.c_MOST_WORD.choose_spec ⟨_, rfl⟩ fun _ _ => rfl)) (pp_one (pp_fd (h_is_reduced.mono (by decide)) rfl bn_is_reduced r hg (aa_cons (pp_name 1) aa_nil) (hfl := (aCons_len aNil_len))))))))))
theorem sc_first_words : FnScope ["rank", "length", "found", "turn"] ["rank", "length"] d_first_words.scope := ⟨rfl, rfl, rfl, by decide +kernel, rfl, by decide +kernel, by decide +kernel⟩
theorem ok_first_words (B : Fx K mg) (BT : BaseT K mg base) (h_many_words : Cal P w K mg base 1 d_many_words ["rank", "length"] F_many_words) (h_want_at_most : Cal P w K mg base 1 d_want_at_most ["what", "limit", "number"] F_want_at_most) (h_want_rank : Cal P w K mg base 2 d_want_rank ["value"] F_want_rank) (h_words_from : Cal P w K mg base 2 d_words_from ["words", "rank"] F_words_from)  (h_want_many_D1 : CalB P w K mg base 3 d_want_many ["value", "most", "least"] [0] F_want_many) : Cal P w K mg base 4 d_first_words ["rank", "length"] F_first_words :=
  cal_of (N := ["rank", "length", "found", "turn"]) (k := 3) (lk := []) B.n_first_words B.d_first_words rfl sc_first_words fun cdv A outer s H E r hg =>
    have SC := sc_first_words
    have tk := takes_of (X := cxOf (CX P w) P w K mg base ["rank", "length", "found", "turn"] d_first_words.qual d_first_words.scope (He.fAd K d_first_words.at_) cdv A outer s H E) rfl rfl rfl rfl
    have ps := passes_of (X := cxOf (CX P w) P w K mg base ["rank", "length", "found", "turn"] d_first_words.qual d_first_words.scope (He.fAd K d_first_words.at_) cdv A outer s H E) rfl
    (by exact (sds_cons (sd_expr (pm_pp (pp_fd (h_want_rank.mono (by decide)) rfl bn_want_rank r hg (aa_cons (pp_name 0) aa_nil) (hfl := (aCons_len aNil_len))))) (sds_cons (sd_expr (pm_pp (pp_fdD (h_want_many_D1.mono (by decide)) rfl r hg (aa_cons (pp_name 1) (aa_cons (pp_glob (d := .int 60) (v := .int 60) B.c_MOST_WORD.choose_spec ⟨_, rfl⟩ fun _ _ => rfl) aa_nil)) (hfl := aDf_len (aCons_len (aCons_len aNil_len)))))) (sds_cons (sd_expr (pm_pp (pp_fd (h_want_at_most.mono (by decide)) rfl bn_want_at_most r hg (aa_cons pp_str (aa_cons (pp_glob (d := .int 400) (v := .int 400) B.c_MOST_LISTED_words.choose_spec ⟨_, rfl⟩ fun _ _ => rfl) (aa_cons (pp_fd (h_many_words.mono (by decide)) rfl bn_many_words r hg (aa_cons (pp_name 0) (aa_cons (pp_name 1) aa_nil)) (hfl := (aCons_len (aCons_len aNil_len)))) aa_nil))) (hfl := (aCons_len (aCons_len (aCons_len aNil_len))))))) (sds_cons (sd_set 2 (pm_pp (pp_lst (aa_cons (pp_tup aa_nil) aa_nil))) SC.nd) (sds_cons (sd_for (vs := [3]) ps rfl (ip_range1 B.f_range (aa_cons (pp_name 1) aa_nil)) (gp_name 3 SC.nd) (sds_one (sd_set 2 (pm_pp (pp_fd (h_words_from.mono (by decide)) rfl bn_words_from r hg (aa_cons (pp_name 2) (aa_cons (pp_name 0) aa_nil)) (hfl := (aCons_len (aCons_len aNil_len))))) SC.nd))) (sds_one (sd_ret (pm_pp (pp_name 2))))))))))
theorem sc_behind_of : FnScope ["images", "other", "word"] ["images", "other"] d_behind_of.scope := ⟨rfl, rfl, rfl, by decide +kernel, rfl, by decide +kernel, by decide +kernel⟩
theorem ok_behind_of (B : Fx K mg) (BT : BaseT K mg base) (h_image_of : Cal P w K mg base 3 d_image_of ["images", "word"] F_image_of)   : Cal P w K mg base 4 d_behind_of ["images", "other"] F_behind_of :=
  cal_of (N := ["images", "other", "word"]) (k := 3) (lk := []) B.n_behind_of B.d_behind_of rfl sc_behind_of fun cdv A outer s H E r hg =>
    have SC := sc_behind_of
    have tk := takes_of (X := cxOf (CX P w) P w K mg base ["images", "other", "word"] d_behind_of.qual d_behind_of.scope (He.fAd K d_behind_of.at_) cdv A outer s H E) rfl rfl rfl rfl
    have ps := passes_of (X := cxOf (CX P w) P w K mg base ["images", "other", "word"] d_behind_of.qual d_behind_of.scope (He.fAd K d_behind_of.at_) cdv A outer s H E) rfl
    (by exact (sds_one (sd_ret (pm_pp (pp_callT c_tuple B.f_tuple (aa_cons (pp_lc rfl SC.nd (ip_seq (pp_ix (pp_name 0) pp_int)) (blkOk_by (own := [("word", 2)]) (by first | rfl | with_unfolding_all rfl)) (fun _ _ _ _ _ => (gp_name 2 SC.nd)) (fun _ _ _ _ _ => tps_nil) (fun _ _ _ _ _ => (pp_fd (h_image_of.mono (by decide)) rfl bn_image_of r hg (aa_cons (pp_name 1) (aa_cons (pp_name 2) aa_nil)) (hfl := (aCons_len (aCons_len aNil_len)))))) aa_nil))))))
theorem sc_kept_words : FnScope ["images", "length", "some", "turn", "word"] ["images", "length"] d_kept_words.scope := ⟨rfl, rfl, rfl, by decide +kernel, rfl, by decide +kernel, by decide +kernel⟩
theorem ok_kept_words (B : Fx K mg) (BT : BaseT K mg base) (h_image_of : Cal P w K mg base 3 d_image_of ["images", "word"] F_image_of) (h_words_from : Cal P w K mg base 2 d_words_from ["words", "rank"] F_words_from)   : Cal P w K mg base 4 d_kept_words ["images", "length"] F_kept_words :=
  cal_of (N := ["images", "length", "some", "turn", "word"]) (k := 3) (lk := []) B.n_kept_words B.d_kept_words rfl sc_kept_words fun cdv A outer s H E r hg =>
    have SC := sc_kept_words
    have tk := takes_of (X := cxOf (CX P w) P w K mg base ["images", "length", "some", "turn", "word"] d_kept_words.qual d_kept_words.scope (He.fAd K d_kept_words.at_) cdv A outer s H E) rfl rfl rfl rfl
    have ps := passes_of (X := cxOf (CX P w) P w K mg base ["images", "length", "some", "turn", "word"] d_kept_words.qual d_kept_words.scope (He.fAd K d_kept_words.at_) cdv A outer s H E) rfl
    (by exact (sds_cons (sd_set 2 (pm_pp (pp_lst (aa_cons (pp_tup aa_nil) aa_nil))) SC.nd) (sds_cons (sd_for (vs := [3]) ps rfl (ip_range1 B.f_range (aa_cons (pp_name 1) aa_nil)) (gp_name 3 SC.nd) (sds_one (sd_set 2 (pm_pp (pp_fd (h_words_from.mono (by decide)) rfl bn_words_from r hg (aa_cons (pp_name 2) (aa_cons (pp_ix (pp_name 0) pp_int) aa_nil)) (hfl := (aCons_len (aCons_len aNil_len))))) SC.nd))) (sds_one (sd_ret (pm_pp (pp_lc rfl SC.nd (ip_seq (pp_name 2)) (blkOk_by (own := [("word", 4)]) (by first | rfl | with_unfolding_all rfl)) (fun _ _ _ _ _ => (gp_name 4 SC.nd)) (fun _ _ _ _ _ => (tps_one (tp_cmp (o_eq (Room.u64 r)) (pp_fd (h_image_of.mono (by decide)) rfl bn_image_of r hg (aa_cons (pp_name 0) (aa_cons (pp_name 4) aa_nil)) (hfl := (aCons_len (aCons_len aNil_len)))) (pp_name 4)))) (fun _ _ _ _ _ => (pp_name 4)))))))))
theorem sc__law_images : FnScope ["pot", "rank", "other", "most", "words", "way", "letter"] ["pot", "rank", "other", "most"] d__law_images.scope := ⟨rfl, rfl, rfl, by decide +kernel, rfl, by decide +kernel, by decide +kernel⟩
theorem ok__law_images (B : Fx K mg) (BT : BaseT K mg base) (h__law_draw : Cal P w K mg base 1 d__law_draw ["pot", "many"] F__law_draw) (h__law_reduced : Cal P w K mg base 1 d__law_reduced ["row"] F__law_reduced) (h__law_word : Cal P w K mg base 3 d__law_word ["pot", "rank", "most"] F__law_word)   : Cal P w K mg base 4 d__law_images ["pot", "rank", "other", "most"] F__law_images :=
  cal_of (N := ["pot", "rank", "other", "most", "words", "way", "letter"]) (k := 3) (lk := [0]) B.n__law_images B.d__law_images rfl sc__law_images fun cdv A outer s H E r hg =>
    have SC := sc__law_images
    have tk := takes_of (X := cxOf (CX P w) P w K mg base ["pot", "rank", "other", "most", "words", "way", "letter"] d__law_images.qual d__law_images.scope (He.fAd K d__law_images.at_) cdv A outer s H E) rfl rfl rfl rfl
    have ps := passes_of (X := cxOf (CX P w) P w K mg base ["pot", "rank", "other", "most", "words", "way", "letter"] d__law_images.qual d__law_images.scope (He.fAd K d__law_images.at_) cdv A outer s H E) rfl
    (by exact (sds_cons (sd_setOLm 4 rfl SC.nd (by first | exact sw_true rfl rfl rfl rfl | with_unfolding_all rfl) (ip_range1 B.f_range (aa_cons (pp_name 1) aa_nil)) (blkOk_by (own := [("letter", 6)]) (by first | rfl | with_unfolding_all rfl)) (fun _ _ _ _ _ => (gp_name 6 SC.nd)) (fun _ _ _ _ _ => tps_nil) (fun _ _ _ _ _ => (pm_fd (h__law_word.mono (by decide)) rfl bn__law_word r hg takes_no (ar_bw 0 (ar_fz (pm_pp (pp_name 2)) (ar_fz (pm_pp (pp_name 3)) ar_nil)))))) (sds_cons (sd_set 5 (pm_fd (h__law_draw.mono (by decide)) rfl bn__law_draw r hg tk (ar_bw 0 (ar_fz (pm_pp pp_int) ar_nil))) SC.nd) (sds_cons (sd_if (tm_tp (WP.tp (wp_and (tp_cmp (o_eq (Room.u64 r)) (pp_name 5) pp_int) (wp_and1 (tp_cmp o_gt (pp_name 1) pp_int))))) (sds_one (sd_asg (pm_pp (pp_fd (h__law_reduced.mono (by decide)) rfl bn__law_reduced r hg (aa_cons (pp_bin o_add (pp_ix (pp_name 4) pp_int) (pp_ix (pp_name 4) (pp_un o_neg pp_int))) aa_nil) (hfl := (aCons_len aNil_len)))) (ge_sub 4 pp_int))) sds_nil) (sds_one (sd_ret (pm_pp (pp_tup (aa_cons pp_str (aa_cons (pp_name 1) (aa_cons (pp_name 2) (aa_cons (pp_callT c_tuple B.f_tuple (aa_cons (pp_name 4) aa_nil)) aa_nil))))))))))))
theorem sc_is_images_value : FnScope ["value", "rank", "other", "words", "one", "word"] ["value"] d_is_images_value.scope := ⟨rfl, rfl, rfl, by decide +kernel, rfl, by decide +kernel, by decide +kernel⟩
theorem ok_is_images_value (B : Fx K mg) (BT : BaseT K mg base) (h_is_integer : Cal P w K mg base 1 d_is_integer ["value"] F_is_integer) (h_is_word : Cal P w K mg base 4 d_is_word ["rank", "value"] F_is_word)   : Cal P w K mg base 5 d_is_images_value ["value"] F_is_images_value :=
  cal_of (N := ["value", "rank", "other", "words", "one", "word"]) (k := 4) (lk := []) B.n_is_images_value B.d_is_images_value rfl sc_is_images_value fun cdv A outer s H E r hg =>
    have SC := sc_is_images_value
    have tk := takes_of (X := cxOf (CX P w) P w K mg base ["value", "rank", "other", "words", "one", "word"] d_is_images_value.qual d_is_images_value.scope (He.fAd K d_is_images_value.at_) cdv A outer s H E) rfl rfl rfl rfl
    have ps := passes_of (X := cxOf (CX P w) P w K mg base ["value", "rank", "other", "words", "one", "word"] d_is_images_value.qual d_is_images_value.scope (He.fAd K d_is_images_value.at_) cdv A outer s H E) rfl
    (by exact (sds_cons (sd_if (tm_tp (WP.tp (wp_or (tp_not (tp_val (pp_isi .tuple B.f_isinstance B.f_tuple (pp_name 0)))) (wp_or (tp_cmp (o_ne (Room.u64 r)) (pp_callB c_len B.f_len (aa_cons (pp_name 0) aa_nil)) pp_int) (wp_or (tp_not (tp_val (pp_isi .str B.f_isinstance B.f_str (pp_ix (pp_name 0) pp_int)))) (wp_or1 (tp_cmp (o_ne (Room.u64 r)) (pp_ix (pp_name 0) pp_int) (pp_glob (d := .str "images") (v := .str "images") B.c_IMAGES.choose_spec ⟨_, rfl⟩ fun _ _ => rfl)))))))) (sds_one (sd_ret (pm_pp pp_bl))) sds_nil) (sds_cons (sd_asg (pm_pp (pp_slice (pp_name 0) (op_some pp_int) op_none)) (ge_tup rfl (ges_cons (ge_gp (vs := [1]) (gp_name 1 SC.nd)) (ges_cons (ge_gp (vs := [2]) (gp_name 2 SC.nd)) (ges_cons (ge_gp (vs := [3]) (gp_name 3 SC.nd)) ges_nil))))) (sds_cons (sd_if (tm_tp (tp_not (tp_val (pp_callB (c_all rfl) B.f_all (aa_cons (pp_lc rfl SC.nd (ip_seq (pp_tup (aa_cons (pp_name 1) (aa_cons (pp_name 2) aa_nil)))) (blkOk_by (own := [("one", 4)]) (by first | rfl | with_unfolding_all rfl)) (fun _ _ _ _ _ => (gp_name 4 SC.nd)) (fun _ _ _ _ _ => tps_nil) (fun _ _ _ _ _ => (pp_and (pp_fd (h_is_integer.mono (by decide)) rfl bn_is_integer r hg (aa_cons (pp_name 4) aa_nil) (hfl := (aCons_len aNil_len))) (pp_one (pp_chain o_le o_le pp_int (pp_name 4) (pp_glob (d := .int 4) (v := .int 4) B.c_MOST_RANK.choose_spec ⟨_, rfl⟩ fun _ _ => rfl)))))) aa_nil))))) (sds_one (sd_ret (pm_pp pp_bl))) sds_nil) (sds_cons (sd_if (tm_tp (WP.tp (wp_or (tp_not (tp_val (pp_isi .tuple B.f_isinstance B.f_tuple (pp_name 3)))) (wp_or (tp_cmp (o_ne (Room.u64 r)) (pp_callB c_len B.f_len (aa_cons (pp_name 3) aa_nil)) (pp_name 1)) (wp_or1 (tp_not (tp_val (pp_callB (c_all rfl) B.f_all (aa_cons (pp_lc rfl SC.nd (ip_seq (pp_name 3)) (blkOk_by (own := [("word", 5)]) (by first | rfl | with_unfolding_all rfl)) (fun _ _ _ _ _ => (gp_name 5 SC.nd)) (fun _ _ _ _ _ => tps_nil) (fun _ _ _ _ _ => (pp_fd (h_is_word.mono (by decide)) rfl bn_is_word r hg (aa_cons (pp_name 2) (aa_cons (pp_name 5) aa_nil)) (hfl := (aCons_len (aCons_len aNil_len)))))) aa_nil))))))))) (sds_one (sd_ret (pm_pp pp_bl))) sds_nil) (sds_one (sd_ret (pm_pp (pp_cmp o_le (pp_callB (c_sum rfl) B.f_sum (aa_cons (pp_lc rfl SC.nd (ip_seq (pp_name 3)) (blkOk_by (own := [("word", 5)]) (by first | rfl | with_unfolding_all rfl)) (fun _ _ _ _ _ => (gp_name 5 SC.nd)) (fun _ _ _ _ _ => tps_nil) (fun _ _ _ _ _ => (pp_callB c_len B.f_len (aa_cons (pp_name 5) aa_nil)))) aa_nil)) (pp_glob (d := .int 48) (v := .int 48) B.c_MOST_LETTERS.choose_spec ⟨_, rfl⟩ fun _ _ => rfl))))))))))
theorem sc_want_images : FnScope ["value"] ["value"] d_want_images.scope := ⟨rfl, rfl, rfl, by decide +kernel, rfl, by decide +kernel, by decide +kernel⟩
theorem ok_want_images (B : Fx K mg) (BT : BaseT K mg base) (h_is_images_value : Cal P w K mg base 5 d_is_images_value ["value"] F_is_images_value)   : Cal P w K mg base 6 d_want_images ["value"] F_want_images :=
  cal_of (N := ["value"]) (k := 5) (lk := []) B.n_want_images B.d_want_images rfl sc_want_images fun cdv A outer s H E r hg =>
    have SC := sc_want_images
    have tk := takes_of (X := cxOf (CX P w) P w K mg base ["value"] d_want_images.qual d_want_images.scope (He.fAd K d_want_images.at_) cdv A outer s H E) rfl rfl rfl rfl
    have ps := passes_of (X := cxOf (CX P w) P w K mg base ["value"] d_want_images.qual d_want_images.scope (He.fAd K d_want_images.at_) cdv A outer s H E) rfl
    (by exact (sds_one (sd_if (tm_tp (tp_not (tp_val (pp_fd (h_is_images_value.mono (by decide)) rfl bn_is_images_value r hg (aa_cons (pp_name 0) aa_nil) (hfl := (aCons_len aNil_len)))))) (sds_one sd_never) sds_nil)))
theorem sc_want_own_rank : FnScope ["images"] ["images"] d_want_own_rank.scope := ⟨rfl, rfl, rfl, by decide +kernel, rfl, by decide +kernel, by decide +kernel⟩
theorem ok_want_own_rank (B : Fx K mg) (BT : BaseT K mg base) (h_want_images : Cal P w K mg base 6 d_want_images ["value"] F_want_images)   : Cal P w K mg base 7 d_want_own_rank ["images"] F_want_own_rank :=
  cal_of (N := ["images"]) (k := 6) (lk := []) B.n_want_own_rank B.d_want_own_rank rfl sc_want_own_rank fun cdv A outer s H E r hg =>
    have SC := sc_want_own_rank
    have tk := takes_of (X := cxOf (CX P w) P w K mg base ["images"] d_want_own_rank.qual d_want_own_rank.scope (He.fAd K d_want_own_rank.at_) cdv A outer s H E) rfl rfl rfl rfl
    have ps := passes_of (X := cxOf (CX P w) P w K mg base ["images"] d_want_own_rank.qual d_want_own_rank.scope (He.fAd K d_want_own_rank.at_) cdv A outer s H E) rfl
    (by exact (sds_cons (sd_expr (pm_pp (pp_fd (h_want_images.mono (by decide)) rfl bn_want_images r hg (aa_cons (pp_name 0) aa_nil) (hfl := (aCons_len aNil_len))))) (sds_one (sd_if (tm_tp (tp_cmp (o_ne (Room.u64 r)) (pp_ix (pp_name 0) pp_int) (pp_ix (pp_name 0) pp_int))) (sds_one sd_never) sds_nil))))
theorem sc_images_power : FnScope ["images", "many", "found", "turn"] ["images", "many"] d_images_power.scope := ⟨rfl, rfl, rfl, by decide +kernel, rfl, by decide +kernel, by decide +kernel⟩
theorem ok_images_power (B : Fx K mg) (BT : BaseT K mg base) (h_behind_of : Cal P w K mg base 4 d_behind_of ["images", "other"] F_behind_of) (h_fits_images : Cal P w K mg base 3 d_fits_images ["words"] F_fits_images) (h_letters_as_images : Cal P w K mg base 1 d_letters_as_images ["rank"] F_letters_as_images) (h_want_images : Cal P w K mg base 6 d_want_images ["value"] F_want_images) (h_want_own_rank : Cal P w K mg base 7 d_want_own_rank ["images"] F_want_own_rank)  (h_want_many_D1 : CalB P w K mg base 3 d_want_many ["value", "most", "least"] [0] F_want_many) : Cal P w K mg base 8 d_images_power ["images", "many"] F_images_power :=
  cal_of (N := ["images", "many", "found", "turn"]) (k := 7) (lk := []) B.n_images_power B.d_images_power rfl sc_images_power fun cdv A outer s H E r hg =>
    have SC := sc_images_power
    have tk := takes_of (X := cxOf (CX P w) P w K mg base ["images", "many", "found", "turn"] d_images_power.qual d_images_power.scope (He.fAd K d_images_power.at_) cdv A outer s H E) rfl rfl rfl rfl
    have ps := passes_of (X := cxOf (CX P w) P w K mg base ["images", "many", "found", "turn"] d_images_power.qual d_images_power.scope (He.fAd K d_images_power.at_) cdv A outer s H E) rfl
    (by exact (sds_cons (sd_expr (pm_pp (pp_fd (h_want_images.mono (by decide)) rfl bn_want_images r hg (aa_cons (pp_name 0) aa_nil) (hfl := (aCons_len aNil_len))))) (sds_cons (sd_expr (pm_pp (pp_fdD (h_want_many_D1.mono (by decide)) rfl r hg (aa_cons (pp_name 1) (aa_cons (pp_glob (d := .int 24) (v := .int 24) B.c_MOST_POWER.choose_spec ⟨_, rfl⟩ fun _ _ => rfl) aa_nil)) (hfl := aDf_len (aCons_len (aCons_len aNil_len)))))) (sds_cons (sd_expr (pm_pp (pp_fd (h_want_own_rank.mono (by decide)) rfl bn_want_own_rank r hg (aa_cons (pp_name 0) aa_nil) (hfl := (aCons_len aNil_len))))) (sds_cons (sd_set 2 (pm_pp (pp_fd (h_letters_as_images.mono (by decide)) rfl bn_letters_as_images r hg (aa_cons (pp_ix (pp_name 0) pp_int) aa_nil) (hfl := (aCons_len aNil_len)))) SC.nd) (sds_cons (sd_for (vs := [3]) ps rfl (ip_range1 B.f_range (aa_cons (pp_name 1) aa_nil)) (gp_name 3 SC.nd) (sds_one (sd_set 2 (pm_tup (am_cons (pm_pp (pp_glob (d := .str "images") (v := .str "images") B.c_IMAGES.choose_spec ⟨_, rfl⟩ fun _ _ => rfl)) (am_cons (pm_pp (pp_ix (pp_name 0) pp_int)) (am_cons (pm_pp (pp_ix (pp_name 0) pp_int)) (am_cons (pm_fd (h_fits_images.mono (by decide)) rfl bn_fits_images r hg tk (ar_fz (pm_pp (pp_fd (h_behind_of.mono (by decide)) rfl bn_behind_of r hg (aa_cons (pp_name 2) (aa_cons (pp_name 0) aa_nil)) (hfl := (aCons_len (aCons_len aNil_len))))) ar_nil)) am_nil))))) SC.nd))) (sds_one (sd_ret (pm_pp (pp_name 2))))))))))
theorem sc_least_turn : FnScope ["images", "words", "same", "many", "word"] ["images"] d_least_turn.scope := ⟨rfl, rfl, rfl, by decide +kernel, rfl, by decide +kernel, by decide +kernel⟩
theorem ok_least_turn (B : Fx K mg) (BT : BaseT K mg base) (h_image_of : Cal P w K mg base 3 d_image_of ["images", "word"] F_image_of) (h_letters_as_images : Cal P w K mg base 1 d_letters_as_images ["rank"] F_letters_as_images) (h_want_own_rank : Cal P w K mg base 7 d_want_own_rank ["images"] F_want_own_rank)   : Cal P w K mg base 8 d_least_turn ["images"] F_least_turn :=
  cal_of (N := ["images", "words", "same", "many", "word"]) (k := 7) (lk := []) B.n_least_turn B.d_least_turn rfl sc_least_turn fun cdv A outer s H E r hg =>
    have SC := sc_least_turn
    have tk := takes_of (X := cxOf (CX P w) P w K mg base ["images", "words", "same", "many", "word"] d_least_turn.qual d_least_turn.scope (He.fAd K d_least_turn.at_) cdv A outer s H E) rfl rfl rfl rfl
    have ps := passes_of (X := cxOf (CX P w) P w K mg base ["images", "words", "same", "many", "word"] d_least_turn.qual d_least_turn.scope (He.fAd K d_least_turn.at_) cdv A outer s H E) rfl
    (by exact (sds_cons (sd_expr (pm_pp (pp_fd (h_want_own_rank.mono (by decide)) rfl bn_want_own_rank r hg (aa_cons (pp_name 0) aa_nil) (hfl := (aCons_len aNil_len))))) (sds_cons (sd_par 1 2 rfl (ar_fz (pm_pp (pp_ix (pp_name 0) pp_int)) (ar_fz (pm_pp (pp_ix (pp_fd (h_letters_as_images.mono (by decide)) rfl bn_letters_as_images r hg (aa_cons (pp_ix (pp_name 0) pp_int) aa_nil) (hfl := (aCons_len aNil_len))) pp_int)) ar_nil)) SC.nd (by with_unfolding_all rfl)) (sds_cons (sd_for (vs := [3]) ps rfl (ip_range2 B.f_range (aa_cons pp_int (aa_cons (pp_bin o_add (pp_glob (d := .int 24) (v := .int 24) B.c_MOST_POWER.choose_spec ⟨_, rfl⟩ fun _ _ => rfl) pp_int) aa_nil))) (gp_name 3 SC.nd) (sds_cons (sd_if (tm_tp (tp_cmp (o_eq (Room.u64 r)) (pp_name 1) (pp_name 2))) (sds_one (sd_ret (pm_pp (pp_name 3)))) sds_nil) (sds_cons (sd_if (tm_tp (tp_cmp o_gt (pp_callB (c_sum rfl) B.f_sum (aa_cons (pp_lc rfl SC.nd (ip_seq (pp_name 1)) (blkOk_by (own := [("word", 4)]) (by first | rfl | with_unfolding_all rfl)) (fun _ _ _ _ _ => (gp_name 4 SC.nd)) (fun _ _ _ _ _ => tps_nil) (fun _ _ _ _ _ => (pp_callB c_len B.f_len (aa_cons (pp_name 4) aa_nil)))) aa_nil)) (pp_glob (d := .int 48) (v := .int 48) B.c_MOST_LETTERS.choose_spec ⟨_, rfl⟩ fun _ _ => rfl))) (sds_one (sd_ret (pm_pp pp_non))) sds_nil) (sds_one (sd_set 1 (pm_pp (pp_callT c_tuple B.f_tuple (aa_cons (pp_lc rfl SC.nd (ip_seq (pp_name 1)) (blkOk_by (own := [("word", 4)]) (by first | rfl | with_unfolding_all rfl)) (fun _ _ _ _ _ => (gp_name 4 SC.nd)) (fun _ _ _ _ _ => tps_nil) (fun _ _ _ _ _ => (pp_fd (h_image_of.mono (by decide)) rfl bn_image_of r hg (aa_cons (pp_name 0) (aa_cons (pp_name 4) aa_nil)) (hfl := (aCons_len (aCons_len aNil_len)))))) aa_nil))) SC.nd))))) (sds_one (sd_ret (pm_pp pp_non)))))))
theorem sc_words_left : FnScope ["images", "length"] ["images", "length"] d_words_left.scope := ⟨rfl, rfl, rfl, by decide +kernel, rfl, by decide +kernel, by decide +kernel⟩
theorem ok_words_left (B : Fx K mg) (BT : BaseT K mg base) (h_kept_words : Cal P w K mg base 4 d_kept_words ["images", "length"] F_kept_words) (h_many_words : Cal P w K mg base 1 d_many_words ["rank", "length"] F_many_words) (h_want_at_most : Cal P w K mg base 1 d_want_at_most ["what", "limit", "number"] F_want_at_most) (h_want_images : Cal P w K mg base 6 d_want_images ["value"] F_want_images) (h_want_own_rank : Cal P w K mg base 7 d_want_own_rank ["images"] F_want_own_rank)  (h_want_many_D1 : CalB P w K mg base 3 d_want_many ["value", "most", "least"] [0] F_want_many) : Cal P w K mg base 8 d_words_left ["images", "length"] F_words_left :=
  cal_of (N := ["images", "length"]) (k := 7) (lk := []) B.n_words_left B.d_words_left rfl sc_words_left fun cdv A outer s H E r hg =>
    have SC := sc_words_left
    have tk := takes_of (X := cxOf (CX P w) P w K mg base ["images", "length"] d_words_left.qual d_words_left.scope (He.fAd K d_words_left.at_) cdv A outer s H E) rfl rfl rfl rfl
    have ps := passes_of (X := cxOf (CX P w) P w K mg base ["images", "length"] d_words_left.qual d_words_left.scope (He.fAd K d_words_left.at_) cdv A outer s H E) rfl
    (by exact (sds_cons (sd_expr (pm_pp (pp_fd (h_want_images.mono (by decide)) rfl bn_want_images r hg (aa_cons (pp_name 0) aa_nil) (hfl := (aCons_len aNil_len))))) (sds_cons (sd_expr (pm_pp (pp_fdD (h_want_many_D1.mono (by decide)) rfl r hg (aa_cons (pp_name 1) (aa_cons (pp_glob (d := .int 24) (v := .int 24) B.c_MOST_POWER.choose_spec ⟨_, rfl⟩ fun _ _ => rfl) aa_nil)) (hfl := aDf_len (aCons_len (aCons_len aNil_len)))))) (sds_cons (sd_expr (pm_pp (pp_fd (h_want_own_rank.mono (by decide)) rfl bn_want_own_rank r hg (aa_cons (pp_name 0) aa_nil) (hfl := (aCons_len aNil_len))))) (sds_cons (sd_expr (pm_pp (pp_fd (h_want_at_most.mono (by decide)) rfl bn_want_at_most r hg (aa_cons pp_str (aa_cons (pp_glob (d := .int 400) (v := .int 400) B.c_MOST_LISTED_drawnback.choose_spec ⟨_, rfl⟩ fun _ _ => rfl) (aa_cons (pp_fd (h_many_words.mono (by decide)) rfl bn_many_words r hg (aa_cons (pp_ix (pp_name 0) pp_int) (aa_cons (pp_name 1) aa_nil)) (hfl := (aCons_len (aCons_len aNil_len)))) aa_nil))) (hfl := (aCons_len (aCons_len (aCons_len aNil_len))))))) (sds_one (sd_ret (pm_pp (pp_fd (h_kept_words.mono (by decide)) rfl bn_kept_words r hg (aa_cons (pp_name 0) (aa_cons (pp_name 1) aa_nil)) (hfl := (aCons_len (aCons_len aNil_len))))))))))))
theorem sc__law_right : FnScope ["pot", "turn", "rank", "images", "many", "due", "told", "length", "some", "letter", "word"] ["pot"] d__law_right.scope := ⟨rfl, rfl, rfl, by decide +kernel, rfl, by decide +kernel, by decide +kernel⟩
theorem ok__law_right (B : Fx K mg) (BT : BaseT K mg base) (h__law_draw : Cal P w K mg base 1 d__law_draw ["pot", "many"] F__law_draw) (h__law_exchange : Cal P w K mg base 2 d__law_exchange ["pot", "rank", "moves"] F__law_exchange) (h__law_image : Cal P w K mg base 2 d__law_image ["images", "word"] F__law_image) (h__law_images : Cal P w K mg base 4 d__law_images ["pot", "rank", "other", "most"] F__law_images) (h__law_least : Cal P w K mg base 3 d__law_least ["images"] F__law_least) (h__law_letters_only : Cal P w K mg base 2 d__law_letters_only ["pot", "rank"] F__law_letters_only) (h__law_powers : Cal P w K mg base 3 d__law_powers ["images", "many"] F__law_powers) (h__law_rings : Cal P w K mg base 2 d__law_rings ["images"] F__law_rings) (h_first_words : Cal P w K mg base 4 d_first_words ["rank", "length"] F_first_words) (h_images_power : Cal P w K mg base 8 d_images_power ["images", "many"] F_images_power) (h_least_turn : Cal P w K mg base 8 d_least_turn ["images"] F_least_turn) (h_words_left : Cal P w K mg base 8 d_words_left ["images", "length"] F_words_left)   : Cal P w K mg base 11 d__law_right ["pot"] F__law_right :=
  cal_ofL (N := ["pot", "turn", "rank", "images", "many", "due", "told", "length", "some", "letter", "word"]) (k := 10) (lk := [0]) B.n__law_right B.d__law_right B.l__law_right rfl sc__law_right fun cA PA itc A outer s H E r hg =>
    have SC := sc__law_right
    have tk := takes_of (X := cxOf (CX P w) P w K mg base ["pot", "turn", "rank", "images", "many", "due", "told", "length", "some", "letter", "word"] d__law_right.qual d__law_right.scope (He.fAd K d__law_right.at_) (.ref cA) A outer s H E) rfl rfl rfl rfl
    have ps := passes_of (X := cxOf (CX P w) P w K mg base ["pot", "turn", "rank", "images", "many", "due", "told", "length", "some", "letter", "word"] d__law_right.qual d__law_right.scope (He.fAd K d__law_right.at_) (.ref cA) A outer s H E) rfl
    (by exact (sds_cons (sd_for (vs := [1]) ps rfl (ip_range1 B.f_range (aa_cons pp_int aa_nil)) (gp_name 1 SC.nd) (sds_cons (sd_set 2 (pm_bin o_add (pm_pp pp_int) (pm_fd (h__law_draw.mono (by decide)) rfl bn__law_draw r hg tk (ar_bw 0 (ar_fz (pm_pp pp_int) ar_nil)))) SC.nd) (sds_cons (sd_forM (vs := [3]) ps rfl (pm_lst (am_cons (pm_fd (h__law_exchange.mono (by decide)) rfl bn__law_exchange r hg tk (ar_bw 0 (ar_fz (pm_pp (pp_name 2)) (ar_fz (pm_bin o_add (pm_pp pp_int) (pm_fd (h__law_draw.mono (by decide)) rfl bn__law_draw r hg tk (ar_bw 0 (ar_fz (pm_pp pp_int) ar_nil)))) ar_nil)))) (am_cons (pm_fd (h__law_images.mono (by decide)) rfl bn__law_images r hg tk (ar_bw 0 (ar_fz (pm_pp (pp_name 2)) (ar_fz (pm_pp (pp_name 2)) (ar_fz (pm_pp pp_int) ar_nil))))) (am_cons (pm_fd (h__law_letters_only.mono (by decide)) rfl bn__law_letters_only r hg tk (ar_bw 0 (ar_fz (pm_pp (pp_name 2)) ar_nil))) am_nil)))) (gp_name 3 SC.nd) (sds_cons (sd_set 4 (pm_fd (h__law_draw.mono (by decide)) rfl bn__law_draw r hg tk (ar_bw 0 (ar_fz (pm_pp pp_int) ar_nil))) SC.nd) (sds_cons (sd_set 5 (pm_pp (pp_fd (h__law_powers.mono (by decide)) rfl bn__law_powers r hg (aa_cons (pp_name 3) (aa_cons (pp_name 4) aa_nil)) (hfl := (aCons_len (aCons_len aNil_len))))) SC.nd) (sds_cons (sd_setO 6 (pm_lst (am_cons (pm_heard (d := d__law_heard) B.n__law_heard B.d__law_heard rfl rfl bn__law_heard rfl sc__law_heard B.e_TooMany B.m_TooMany BT rfl itc r hg (LamX.lamS_by (by show LamX.lamSB d__law_right.scope _ = true; decide +kernel)) (fun A5 o5 s5 H5 E5 f5 c5 r hg => have tk := takes_of (X := LamX.lamCx _ A5 o5 s5 H5 E5 _ f5 c5) rfl rfl rfl rfl; (pm_fd (h_images_power.mono (by decide)) rfl bn_images_power r hg tk (ar_fz (pm_pp (pp_name 3)) (ar_fz (pm_pp (pp_name 4)) ar_nil))))) am_nil)) SC.nd) (sds_cons (sd_expr (pm_mt 6 l_append F.slot_list_append rfl (pm_heard (d := d__law_heard) B.n__law_heard B.d__law_heard rfl rfl bn__law_heard rfl sc__law_heard B.e_TooMany B.m_TooMany BT rfl itc r hg (LamX.lamS_by (by show LamX.lamSB d__law_right.scope _ = true; decide +kernel)) (fun A5 o5 s5 H5 E5 f5 c5 r hg => have tk := takes_of (X := LamX.lamCx _ A5 o5 s5 H5 E5 _ f5 c5) rfl rfl rfl rfl; (pm_fdK0 (h_images_power.mono (by decide)) rfl bk_images_power_0_many_images (gv_perm _ _ _) (gr_perm _ _ _) r hg tk (kk_cons (pp_name 4) (kk_cons (pp_name 3) kk_nil))))))) (sds_cons (sd_if (tm_tp (WP.tp (wp_or (tp_cmp (o_ne (Room.u64 r)) (pp_name 6) (pp_lst (aa_cons (pp_name 5) (aa_cons (pp_name 5) aa_nil)))) (wp_or1 (tp_cmp (o_ne (Room.u64 r)) (pp_callB (c_repr hg (Room.u110 r)) B.f_repr (aa_cons (pp_lst (aa_cons (pp_fd (h_least_turn.mono (by decide)) rfl bn_least_turn r hg (aa_cons (pp_name 3) aa_nil) (hfl := (aCons_len aNil_len))) (aa_cons (pp_fdK0 (h_least_turn.mono (by decide)) rfl bk_least_turn_0_images (gv_perm _ _ _) (gr_perm _ _ _) r hg (kk_cons (pp_name 3) kk_nil)) aa_nil))) aa_nil)) (pp_callB (c_repr hg (Room.u110 r)) B.f_repr (aa_cons (pp_bin o_mul (pp_lst (aa_cons (pp_fd (h__law_least.mono (by decide)) rfl bn__law_least r hg (aa_cons (pp_name 3) aa_nil) (hfl := (aCons_len aNil_len))) aa_nil)) pp_int) aa_nil))))))) (sds_one (sd_ret (pm_pp pp_bl))) sds_nil) (sds_cons (sd_if (tm_tp (WP.tp (wp_and (tp_val (pp_isi .tuple B.f_isinstance B.f_tuple (pp_name 5))) (wp_and (tp_cmp o_gt (pp_name 4) pp_int) (wp_and (tp_cmp o_isNot (pp_fd (h_least_turn.mono (by decide)) rfl bn_least_turn r hg (aa_cons (pp_name 3) aa_nil) (hfl := (aCons_len aNil_len))) pp_non) (wp_and1 (tp_cmp (o_eq (Room.u64 r)) (pp_callT c_int B.f_int (aa_cons (pp_bin o_mod (pp_name 4) (pp_fd (h_least_turn.mono (by decide)) rfl bn_least_turn r hg (aa_cons (pp_name 3) aa_nil) (hfl := (aCons_len aNil_len)))) aa_nil)) pp_int))))))) (sds_one (sd_if (tm_tp (tp_cmp (o_ne (Room.u64 r)) (pp_ix (pp_name 5) pp_int) (pp_callT c_tuple B.f_tuple (aa_cons (pp_lc rfl SC.nd (ip_range2 B.f_range (aa_cons pp_int (aa_cons (pp_bin o_add (pp_name 2) pp_int) aa_nil))) (blkOk_by (own := [("letter", 9)]) (by first | rfl | with_unfolding_all rfl)) (fun _ _ _ _ _ => (gp_name 9 SC.nd)) (fun _ _ _ _ _ => tps_nil) (fun _ _ _ _ _ => (pp_tup (aa_cons (pp_name 9) aa_nil)))) aa_nil)))) (sds_one (sd_ret (pm_pp pp_bl))) sds_nil)) sds_nil) (sds_cons (sd_set 7 (pm_bin o_add (pm_pp pp_int) (pm_fd (h__law_draw.mono (by decide)) rfl bn__law_draw r hg tk (ar_bw 0 (ar_fz (pm_pp (pp_ix (pp_lst (aa_cons pp_int (aa_cons pp_int (aa_cons pp_int aa_nil)))) (pp_bin o_sub (pp_name 2) pp_int))) ar_nil)))) SC.nd) (sds_cons (sd_setLc 8 rfl SC.nd (by first | exact sw_true rfl rfl rfl rfl | with_unfolding_all rfl) (ip_seq (pp_fd (h_first_words.mono (by decide)) rfl bn_first_words r hg (aa_cons (pp_name 2) (aa_cons (pp_name 7) aa_nil)) (hfl := (aCons_len (aCons_len aNil_len))))) (blkOk_by (own := [("word", 10)]) (by first | rfl | with_unfolding_all rfl)) (fun _ _ _ _ _ => (gp_name 10 SC.nd)) (fun _ _ _ _ _ => (tps_one (tp_cmp (o_eq (Room.u64 r)) (pp_fd (h__law_image.mono (by decide)) rfl bn__law_image r hg (aa_cons (pp_name 3) (aa_cons (pp_name 10) aa_nil)) (hfl := (aCons_len (aCons_len aNil_len)))) (pp_name 10)))) (fun _ _ _ _ _ => (pp_name 10))) (sds_one (sd_if (tm_tp (WP.tp (wp_or (tp_cmp (o_ne (Room.u64 r)) (pp_lst (aa_cons (pp_fd (h_words_left.mono (by decide)) rfl bn_words_left r hg (aa_cons (pp_name 3) (aa_cons (pp_name 7) aa_nil)) (hfl := (aCons_len (aCons_len aNil_len)))) (aa_cons (pp_fdK0 (h_words_left.mono (by decide)) rfl bk_words_left_0_length_images (gv_perm _ _ _) (gr_perm _ _ _) r hg (kk_cons (pp_name 7) (kk_cons (pp_name 3) kk_nil))) aa_nil))) (pp_lst (aa_cons (pp_name 8) (aa_cons (pp_name 8) aa_nil)))) (wp_or1 (tp_cmp (o_ne (Room.u64 r)) (pp_fd (h_words_left.mono (by decide)) rfl bn_words_left r hg (aa_cons (pp_name 3) (aa_cons pp_int aa_nil)) (hfl := (aCons_len (aCons_len aNil_len)))) (pp_lst (aa_cons (pp_tup aa_nil) aa_nil))))))) (sds_one (sd_ret (pm_pp pp_bl))) sds_nil))))))))))) (sds_cons (sd_set 3 (pm_fd (h__law_letters_only.mono (by decide)) rfl bn__law_letters_only r hg tk (ar_bw 0 (ar_fz (pm_pp pp_int) ar_nil))) SC.nd) (sds_one (sd_if (tm_tp (tp_cmp (o_ne (Room.u64 r)) (pp_fd (h_least_turn.mono (by decide)) rfl bn_least_turn r hg (aa_cons (pp_name 3) aa_nil) (hfl := (aCons_len aNil_len))) (pp_fd (h__law_rings.mono (by decide)) rfl bn__law_rings r hg (aa_cons (pp_name 3) aa_nil) (hfl := (aCons_len aNil_len))))) (sds_one (sd_ret (pm_pp pp_bl))) sds_nil)))))) (sds_one (sd_ret (pm_pp pp_bl)))))
theorem sc_law : FnScope ["script", "k"] ["script"] d_law.scope := ⟨rfl, rfl, rfl, by decide +kernel, rfl, by decide +kernel, by decide +kernel⟩
theorem ok_law (B : Fx K mg) (BT : BaseT K mg base) (h__law_pot : Cal P w K mg base 1 d__law_pot ["script", "k"] F__law_pot) (h__law_right : Cal P w K mg base 11 d__law_right ["pot"] F__law_right)   : Cal P w K mg base 12 d_law ["script"] F_law :=
  cal_of (N := ["script", "k"]) (k := 11) (lk := []) B.n_law B.d_law rfl sc_law fun cdv A outer s H E r hg =>
    have SC := sc_law
    have tk := takes_of (X := cxOf (CX P w) P w K mg base ["script", "k"] d_law.qual d_law.scope (He.fAd K d_law.at_) cdv A outer s H E) rfl rfl rfl rfl
    have ps := passes_of (X := cxOf (CX P w) P w K mg base ["script", "k"] d_law.qual d_law.scope (He.fAd K d_law.at_) cdv A outer s H E) rfl
    (by exact (sds_one (sd_ret (pm_callB (c_all rfl) B.f_all (am_cons (pm_lc rfl SC.nd (ip_range1 B.f_range (aa_cons (pp_callB (c_max2 rfl) B.f_max (aa_cons pp_int (aa_cons (pp_callB (c_min2 rfl) B.f_min (aa_cons pp_int (aa_cons (pp_callB c_len B.f_len (aa_cons (pp_name 0) aa_nil)) aa_nil))) aa_nil))) aa_nil)) (blkOk_by (own := [("k", 1)]) (by first | rfl | with_unfolding_all rfl)) (fun _ _ _ _ _ => (gp_name 1 SC.nd)) (fun _ _ _ _ _ => tps_nil) (fun _ _ _ _ _ => (pm_fd (h__law_right.mono (by decide)) rfl bn__law_right r hg takes_no (ar_ow (pm_pp (pp_fd (h__law_pot.mono (by decide)) rfl bn__law_pot r hg (aa_cons (pp_name 0) (aa_cons (pp_name 1) aa_nil)) (hfl := (aCons_len (aCons_len aNil_len))))) ar_nil)))) am_nil)))))
theorem al_is_integer (B : Fx K mg) (BT : BaseT K mg base) : Cal P w K mg base 1 d_is_integer ["value"] F_is_integer := ok_is_integer B BT   
theorem al_want_at_most (B : Fx K mg) (BT : BaseT K mg base) : Cal P w K mg base 1 d_want_at_most ["what", "limit", "number"] F_want_at_most := ok_want_at_most B BT   
theorem al_is_reduced (B : Fx K mg) (BT : BaseT K mg base) : Cal P w K mg base 1 d_is_reduced ["row"] F_is_reduced := ok_is_reduced B BT   
theorem al_letters_of (B : Fx K mg) (BT : BaseT K mg base) : Cal P w K mg base 1 d_letters_of ["rank"] F_letters_of := ok_letters_of B BT   
theorem al_reduced_of (B : Fx K mg) (BT : BaseT K mg base) : Cal P w K mg base 1 d_reduced_of ["row"] F_reduced_of := ok_reduced_of B BT   
theorem al_undone_of (B : Fx K mg) (BT : BaseT K mg base) : Cal P w K mg base 1 d_undone_of ["word"] F_undone_of := ok_undone_of B BT   
theorem al_many_words (B : Fx K mg) (BT : BaseT K mg base) : Cal P w K mg base 1 d_many_words ["rank", "length"] F_many_words := ok_many_words B BT   
theorem al_letters_as_images (B : Fx K mg) (BT : BaseT K mg base) : Cal P w K mg base 1 d_letters_as_images ["rank"] F_letters_as_images := ok_letters_as_images B BT   
theorem al__law_pot (B : Fx K mg) (BT : BaseT K mg base) : Cal P w K mg base 1 d__law_pot ["script", "k"] F__law_pot := ok__law_pot B BT   
theorem al__law_draw (B : Fx K mg) (BT : BaseT K mg base) : Cal P w K mg base 1 d__law_draw ["pot", "many"] F__law_draw := ok__law_draw B BT   
theorem al__law_reduced (B : Fx K mg) (BT : BaseT K mg base) : Cal P w K mg base 1 d__law_reduced ["row"] F__law_reduced := ok__law_reduced B BT   
theorem al__law_undone (B : Fx K mg) (BT : BaseT K mg base) : Cal P w K mg base 1 d__law_undone ["word"] F__law_undone := ok__law_undone B BT   
theorem al__law_letters (B : Fx K mg) (BT : BaseT K mg base) : Cal P w K mg base 1 d__law_letters ["rank"] F__law_letters := ok__law_letters B BT   
theorem al__law_common (B : Fx K mg) (BT : BaseT K mg base) : Cal P w K mg base 1 d__law_common ["one", "other"] F__law_common := ok__law_common B BT   
theorem al_is_count (B : Fx K mg) (BT : BaseT K mg base) : Cal P w K mg base 2 d_is_count ["value"] F_is_count := ok_is_count B BT (al_is_integer B BT)  
theorem al_is_letter (B : Fx K mg) (BT : BaseT K mg base) : Cal P w K mg base 2 d_is_letter ["rank", "value"] F_is_letter := ok_is_letter B BT (al_is_integer B BT)  
theorem al_want_rank (B : Fx K mg) (BT : BaseT K mg base) : Cal P w K mg base 2 d_want_rank ["value"] F_want_rank := ok_want_rank B BT (al_is_integer B BT)  
theorem al_want_told (B : Fx K mg) (BT : BaseT K mg base) : Cal P w K mg base 2 d_want_told ["word"] F_want_told := ok_want_told B BT (al_want_at_most B BT)  
theorem al_put_together (B : Fx K mg) (BT : BaseT K mg base) : Cal P w K mg base 2 d_put_together ["words"] F_put_together := ok_put_together B BT (al_reduced_of B BT)  
theorem al_words_from (B : Fx K mg) (BT : BaseT K mg base) : Cal P w K mg base 2 d_words_from ["words", "rank"] F_words_from := ok_words_from B BT (al_letters_of B BT)  
theorem al__law_pick (B : Fx K mg) (BT : BaseT K mg base) : Cal P w K mg base 2 d__law_pick ["pot", "some"] F__law_pick := ok__law_pick B BT (al__law_draw B BT)  
theorem al__law_exchange (B : Fx K mg) (BT : BaseT K mg base) : Cal P w K mg base 2 d__law_exchange ["pot", "rank", "moves"] F__law_exchange := ok__law_exchange B BT (al__law_draw B BT) (al__law_reduced B BT) (al__law_undone B BT)  
theorem al__law_image (B : Fx K mg) (BT : BaseT K mg base) : Cal P w K mg base 2 d__law_image ["images", "word"] F__law_image := ok__law_image B BT (al__law_reduced B BT) (al__law_undone B BT)  
theorem al__law_letters_only (B : Fx K mg) (BT : BaseT K mg base) : Cal P w K mg base 2 d__law_letters_only ["pot", "rank"] F__law_letters_only := ok__law_letters_only B BT (al__law_draw B BT)  
theorem al__law_rings (B : Fx K mg) (BT : BaseT K mg base) : Cal P w K mg base 2 d__law_rings ["images"] F__law_rings := ok__law_rings B BT (al__law_common B BT)  
theorem al_want_many_D1 (B : Fx K mg) (BT : BaseT K mg base) : CalB P w K mg base 3 d_want_many ["value", "most", "least"] [0] F_want_many := ok_want_many_D1 B BT (al_is_count B BT)  
theorem al_is_row (B : Fx K mg) (BT : BaseT K mg base) : Cal P w K mg base 3 d_is_row ["rank", "value"] F_is_row := ok_is_row B BT (al_is_letter B BT)  
theorem al_image_of (B : Fx K mg) (BT : BaseT K mg base) : Cal P w K mg base 3 d_image_of ["images", "word"] F_image_of := ok_image_of B BT (al_put_together B BT) (al_undone_of B BT)  
theorem al_fits_images (B : Fx K mg) (BT : BaseT K mg base) : Cal P w K mg base 3 d_fits_images ["words"] F_fits_images := ok_fits_images B BT (al_want_at_most B BT) (al_want_told B BT)  
theorem al__law_word (B : Fx K mg) (BT : BaseT K mg base) : Cal P w K mg base 3 d__law_word ["pot", "rank", "most"] F__law_word := ok__law_word B BT (al__law_draw B BT) (al__law_letters B BT) (al__law_pick B BT) (al__law_reduced B BT)  
theorem al__law_powers (B : Fx K mg) (BT : BaseT K mg base) : Cal P w K mg base 3 d__law_powers ["images", "many"] F__law_powers := ok__law_powers B BT (al__law_image B BT)  
theorem al__law_least (B : Fx K mg) (BT : BaseT K mg base) : Cal P w K mg base 3 d__law_least ["images"] F__law_least := ok__law_least B BT (al__law_image B BT)  
theorem al_is_word (B : Fx K mg) (BT : BaseT K mg base) : Cal P w K mg base 4 d_is_word ["rank", "value"] F_is_word := ok_is_word B BT (al_is_reduced B BT) (al_is_row B BT)  
theorem al_first_words (B : Fx K mg) (BT : BaseT K mg base) : Cal P w K mg base 4 d_first_words ["rank", "length"] F_first_words := ok_first_words B BT (al_many_words B BT) (al_want_at_most B BT) (al_want_rank B BT) (al_words_from B BT)  (al_want_many_D1 B BT)
theorem al_behind_of (B : Fx K mg) (BT : BaseT K mg base) : Cal P w K mg base 4 d_behind_of ["images", "other"] F_behind_of := ok_behind_of B BT (al_image_of B BT)  
theorem al_kept_words (B : Fx K mg) (BT : BaseT K mg base) : Cal P w K mg base 4 d_kept_words ["images", "length"] F_kept_words := ok_kept_words B BT (al_image_of B BT) (al_words_from B BT)  
theorem al__law_images (B : Fx K mg) (BT : BaseT K mg base) : Cal P w K mg base 4 d__law_images ["pot", "rank", "other", "most"] F__law_images := ok__law_images B BT (al__law_draw B BT) (al__law_reduced B BT) (al__law_word B BT)  
theorem al_is_images_value (B : Fx K mg) (BT : BaseT K mg base) : Cal P w K mg base 5 d_is_images_value ["value"] F_is_images_value := ok_is_images_value B BT (al_is_integer B BT) (al_is_word B BT)  
theorem al_want_images (B : Fx K mg) (BT : BaseT K mg base) : Cal P w K mg base 6 d_want_images ["value"] F_want_images := ok_want_images B BT (al_is_images_value B BT)  
theorem al_want_own_rank (B : Fx K mg) (BT : BaseT K mg base) : Cal P w K mg base 7 d_want_own_rank ["images"] F_want_own_rank := ok_want_own_rank B BT (al_want_images B BT)  
theorem al_images_power (B : Fx K mg) (BT : BaseT K mg base) : Cal P w K mg base 8 d_images_power ["images", "many"] F_images_power := ok_images_power B BT (al_behind_of B BT) (al_fits_images B BT) (al_letters_as_images B BT) (al_want_images B BT) (al_want_own_rank B BT)  (al_want_many_D1 B BT)
theorem al_least_turn (B : Fx K mg) (BT : BaseT K mg base) : Cal P w K mg base 8 d_least_turn ["images"] F_least_turn := ok_least_turn B BT (al_image_of B BT) (al_letters_as_images B BT) (al_want_own_rank B BT)  
theorem al_words_left (B : Fx K mg) (BT : BaseT K mg base) : Cal P w K mg base 8 d_words_left ["images", "length"] F_words_left := ok_words_left B BT (al_kept_words B BT) (al_many_words B BT) (al_want_at_most B BT) (al_want_images B BT) (al_want_own_rank B BT)  (al_want_many_D1 B BT)
theorem al__law_right (B : Fx K mg) (BT : BaseT K mg base) : Cal P w K mg base 11 d__law_right ["pot"] F__law_right := ok__law_right B BT (al__law_draw B BT) (al__law_exchange B BT) (al__law_image B BT) (al__law_images B BT) (al__law_least B BT) (al__law_letters_only B BT) (al__law_powers B BT) (al__law_rings B BT) (al_first_words B BT) (al_images_power B BT) (al_least_turn B BT) (al_words_left B BT)  
theorem al_law (B : Fx K mg) (BT : BaseT K mg base) : Cal P w K mg base 12 d_law ["script"] F_law := ok_law B BT (al__law_pot B BT) (al__law_right B BT)  
end
end G76

set_option maxHeartbeats 0
namespace G76
open PySem PySem.Spec PyProof.Rows L2 DL
theorem fx {K : PySem.W.Frag} {h : Heap} {mg : Str → Option Value} (X : K.In h) (G : h.Ns mainGlobals mg) (c : He.SaysD fal fnl K) (k : chk K = true) : Fx K mg := by
  unfold chk at k
  simp only [Bool.and_eq_true] at k
  obtain ⟨⟨k0, k1⟩, k2⟩ := k
  exact {
    n_is_integer := He.glo_ok X G (c.fact 0 (f := .glo "is_integer") rfl)
    d_is_integer := c.def_ 0 (d := d_is_integer) rfl
    n_want_at_most := He.glo_ok X G (c.fact 1 (f := .glo "want_at_most") rfl)
    d_want_at_most := c.def_ 1 (d := d_want_at_most) rfl
    n_is_reduced := He.glo_ok X G (c.fact 2 (f := .glo "is_reduced") rfl)
    d_is_reduced := c.def_ 2 (d := d_is_reduced) rfl
    n_letters_of := He.glo_ok X G (c.fact 3 (f := .glo "letters_of") rfl)
    d_letters_of := c.def_ 3 (d := d_letters_of) rfl
    n_reduced_of := He.glo_ok X G (c.fact 4 (f := .glo "reduced_of") rfl)
    d_reduced_of := c.def_ 4 (d := d_reduced_of) rfl
    n_undone_of := He.glo_ok X G (c.fact 5 (f := .glo "undone_of") rfl)
    d_undone_of := c.def_ 5 (d := d_undone_of) rfl
    n_many_words := He.glo_ok X G (c.fact 6 (f := .glo "many_words") rfl)
    d_many_words := c.def_ 6 (d := d_many_words) rfl
    n_letters_as_images := He.glo_ok X G (c.fact 7 (f := .glo "letters_as_images") rfl)
    d_letters_as_images := c.def_ 7 (d := d_letters_as_images) rfl
    n__law_pot := He.glo_ok X G (c.fact 8 (f := .glo "_law_pot") rfl)
    d__law_pot := c.def_ 8 (d := d__law_pot) rfl
    n__law_draw := He.glo_ok X G (c.fact 9 (f := .glo "_law_draw") rfl)
    d__law_draw := c.def_ 9 (d := d__law_draw) rfl
    n__law_reduced := He.glo_ok X G (c.fact 10 (f := .glo "_law_reduced") rfl)
    d__law_reduced := c.def_ 10 (d := d__law_reduced) rfl
    n__law_undone := He.glo_ok X G (c.fact 11 (f := .glo "_law_undone") rfl)
    d__law_undone := c.def_ 11 (d := d__law_undone) rfl
    n__law_letters := He.glo_ok X G (c.fact 12 (f := .glo "_law_letters") rfl)
    d__law_letters := c.def_ 12 (d := d__law_letters) rfl
    n__law_heard := He.glo_ok X G (c.fact 13 (f := .glo "_law_heard") rfl)
    d__law_heard := c.def_ 13 (d := d__law_heard) rfl
    n__law_common := He.glo_ok X G (c.fact 14 (f := .glo "_law_common") rfl)
    d__law_common := c.def_ 14 (d := d__law_common) rfl
    n_is_count := He.glo_ok X G (c.fact 15 (f := .glo "is_count") rfl)
    d_is_count := c.def_ 15 (d := d_is_count) rfl
    n_is_letter := He.glo_ok X G (c.fact 16 (f := .glo "is_letter") rfl)
    d_is_letter := c.def_ 16 (d := d_is_letter) rfl
    n_want_rank := He.glo_ok X G (c.fact 17 (f := .glo "want_rank") rfl)
    d_want_rank := c.def_ 17 (d := d_want_rank) rfl
    n_want_told := He.glo_ok X G (c.fact 18 (f := .glo "want_told") rfl)
    d_want_told := c.def_ 18 (d := d_want_told) rfl
    n_put_together := He.glo_ok X G (c.fact 19 (f := .glo "put_together") rfl)
    d_put_together := c.def_ 19 (d := d_put_together) rfl
    n_words_from := He.glo_ok X G (c.fact 20 (f := .glo "words_from") rfl)
    d_words_from := c.def_ 20 (d := d_words_from) rfl
    n__law_pick := He.glo_ok X G (c.fact 21 (f := .glo "_law_pick") rfl)
    d__law_pick := c.def_ 21 (d := d__law_pick) rfl
    n__law_exchange := He.glo_ok X G (c.fact 22 (f := .glo "_law_exchange") rfl)
    d__law_exchange := c.def_ 22 (d := d__law_exchange) rfl
    n__law_image := He.glo_ok X G (c.fact 23 (f := .glo "_law_image") rfl)
    d__law_image := c.def_ 23 (d := d__law_image) rfl
    n__law_letters_only := He.glo_ok X G (c.fact 24 (f := .glo "_law_letters_only") rfl)
    d__law_letters_only := c.def_ 24 (d := d__law_letters_only) rfl
    n__law_rings := He.glo_ok X G (c.fact 25 (f := .glo "_law_rings") rfl)
    d__law_rings := c.def_ 25 (d := d__law_rings) rfl
    n_want_many := He.glo_ok X G (c.fact 26 (f := .glo "want_many") rfl)
    d_want_many := c.def_ 26 (d := d_want_many) rfl
    n_is_row := He.glo_ok X G (c.fact 27 (f := .glo "is_row") rfl)
    d_is_row := c.def_ 27 (d := d_is_row) rfl
    n_image_of := He.glo_ok X G (c.fact 28 (f := .glo "image_of") rfl)
    d_image_of := c.def_ 28 (d := d_image_of) rfl
    n_fits_images := He.glo_ok X G (c.fact 29 (f := .glo "fits_images") rfl)
    d_fits_images := c.def_ 29 (d := d_fits_images) rfl
    n__law_word := He.glo_ok X G (c.fact 30 (f := .glo "_law_word") rfl)
    d__law_word := c.def_ 30 (d := d__law_word) rfl
    n__law_powers := He.glo_ok X G (c.fact 31 (f := .glo "_law_powers") rfl)
    d__law_powers := c.def_ 31 (d := d__law_powers) rfl
    n__law_least := He.glo_ok X G (c.fact 32 (f := .glo "_law_least") rfl)
    d__law_least := c.def_ 32 (d := d__law_least) rfl
    n_is_word := He.glo_ok X G (c.fact 33 (f := .glo "is_word") rfl)
    d_is_word := c.def_ 33 (d := d_is_word) rfl
    n_first_words := He.glo_ok X G (c.fact 34 (f := .glo "first_words") rfl)
    d_first_words := c.def_ 34 (d := d_first_words) rfl
    n_behind_of := He.glo_ok X G (c.fact 35 (f := .glo "behind_of") rfl)
    d_behind_of := c.def_ 35 (d := d_behind_of) rfl
    n_kept_words := He.glo_ok X G (c.fact 36 (f := .glo "kept_words") rfl)
    d_kept_words := c.def_ 36 (d := d_kept_words) rfl
    n__law_images := He.glo_ok X G (c.fact 37 (f := .glo "_law_images") rfl)
    d__law_images := c.def_ 37 (d := d__law_images) rfl
    n_is_images_value := He.glo_ok X G (c.fact 38 (f := .glo "is_images_value") rfl)
    d_is_images_value := c.def_ 38 (d := d_is_images_value) rfl
    n_want_images := He.glo_ok X G (c.fact 39 (f := .glo "want_images") rfl)
    d_want_images := c.def_ 39 (d := d_want_images) rfl
    n_want_own_rank := He.glo_ok X G (c.fact 40 (f := .glo "want_own_rank") rfl)
    d_want_own_rank := c.def_ 40 (d := d_want_own_rank) rfl
    n_images_power := He.glo_ok X G (c.fact 41 (f := .glo "images_power") rfl)
    d_images_power := c.def_ 41 (d := d_images_power) rfl
    n_least_turn := He.glo_ok X G (c.fact 42 (f := .glo "least_turn") rfl)
    d_least_turn := c.def_ 42 (d := d_least_turn) rfl
    n_words_left := He.glo_ok X G (c.fact 43 (f := .glo "words_left") rfl)
    d_words_left := c.def_ 43 (d := d_words_left) rfl
    n__law_right := He.glo_ok X G (c.fact 44 (f := .glo "_law_right") rfl)
    d__law_right := c.def_ 44 (d := d__law_right) rfl
    n_law := He.glo_ok X G (c.fact 45 (f := .glo "law") rfl)
    d_law := c.def_ 45 (d := d_law) rfl
    g_TooMany := He.glo_ok X G (c.fact 46 (f := .glo "TooMany") rfl)
    f_abs := He.free_ok X G (c.fact 47 (f := .free "abs") rfl)
    f_all := He.free_ok X G (c.fact 48 (f := .free "all") rfl)
    f_bool := He.free_ok X G (c.fact 49 (f := .free "bool") rfl)
    f_divmod := He.free_ok X G (c.fact 50 (f := .free "divmod") rfl)
    f_int := He.free_ok X G (c.fact 51 (f := .free "int") rfl)
    f_isinstance := He.free_ok X G (c.fact 52 (f := .free "isinstance") rfl)
    f_len := He.free_ok X G (c.fact 53 (f := .free "len") rfl)
    f_list := He.free_ok X G (c.fact 54 (f := .free "list") rfl)
    f_max := He.free_ok X G (c.fact 55 (f := .free "max") rfl)
    f_min := He.free_ok X G (c.fact 56 (f := .free "min") rfl)
    f_range := He.free_ok X G (c.fact 57 (f := .free "range") rfl)
    f_repr := He.free_ok X G (c.fact 58 (f := .free "repr") rfl)
    f_str := He.free_ok X G (c.fact 59 (f := .free "str") rfl)
    f_sum := He.free_ok X G (c.fact 60 (f := .free "sum") rfl)
    f_tuple := He.free_ok X G (c.fact 61 (f := .free "tuple") rfl)
    f_zip := He.free_ok X G (c.fact 62 (f := .free "zip") rfl)
    c_IMAGES := He.str_ok X G (c.fact 63 (f := .str "IMAGES" "images") rfl)
    c_MOST_LETTERS := He.int_ok X G (c.fact 64 (f := .int "MOST_LETTERS" 48) rfl)
    c_MOST_LISTED_drawnback := He.int_ok X G (c.fact 65 (f := .int "MOST_LISTED_drawnback" 400) rfl)
    c_MOST_LISTED_words := He.int_ok X G (c.fact 66 (f := .int "MOST_LISTED_words" 400) rfl)
    c_MOST_POWER := He.int_ok X G (c.fact 67 (f := .int "MOST_POWER" 24) rfl)
    c_MOST_RANK := He.int_ok X G (c.fact 68 (f := .int "MOST_RANK" 4) rfl)
    c_MOST_ROW := He.int_ok X G (c.fact 69 (f := .int "MOST_ROW" 240) rfl)
    c_MOST_WORD := He.int_ok X G (c.fact 70 (f := .int "MOST_WORD" 60) rfl)
    e_TooMany := (c.def_ 46 (d := d_TooMany_init) rfl).elim fun fd F => ec2_of (by decide) (by decide) (by decide) (He.glo_ok X G (c.fact 46 (f := .glo "TooMany") rfl)) k0 F rfl rfl rfl
    m_TooMany := of_decide_eq_true k1
    l__law_right := id k2
  }
end G76
open PySem PySem.W PyProof.Rows
theorem G76.holds_of (tr : ∀ ns : List Int, ns.length ≤ 63 → ∃ e, G76.F_law [.d (.ro (DL.dints ns))] = .ok (.d (.bl true)) e) : PySem.Challenge.rw_wordhandfuls_k76_whole_powers_and_least.Holds := by
  w_on; o_law
  refine HandSHeadRun.head_any (r := OpenLaw.row PySem.Challenge.rw_wordhandfuls_k76_whole_powers_and_least) (q := view (OpenLaw.row PySem.Challenge.rw_wordhandfuls_k76_whole_powers_and_least).prog [68]) (H := G76.hk) (ob := G76.ob) (M := 8000) (loose := G76.loose) (d := HandSHeadRun.topDef (OpenLaw.row PySem.Challenge.rw_wordhandfuls_k76_whole_powers_and_least).prog 68) (kwd := []) G76.ob_eq
    (by kernel_rfl) (fun s => by kernel_rfl) G76.run (by kernel_rfl) (by kernel_rfl) (by kernel_rfl) (by rfl) (by first | assumption | decide +kernel) (by decide +kernel) ⟨rfl, rfl, rfl, rfl, rfl, by decide +kernel⟩ ?hw ?hc
  case hw => w_witness2
  case hc =>
    refine DL.walk_dl (l := PySem.Challenge.rw_wordhandfuls_k76_whole_powers_and_least) (n := 63) (k := 12) (x := "script") (F := G76.F_law) rfl (by decide) (by kernel_rfl) ⟨rfl, by decide, by decide⟩ ?F tr
    intro w mg fa h Y G hmg0
    obtain ⟨K, KX, c, ck, TK, hT⟩ := Y
    have hmg : mg ("law" : PySem.Str) = some (.ref fa) := by
      have e : (HandSHeadRun.topDef (OpenLaw.row PySem.Challenge.rw_wordhandfuls_k76_whole_powers_and_least).prog 68).name = ("law" : PySem.Str) := by kernel_rfl
      rw [← e]
      exact hmg0
    have B := G76.fx KX G c ck
    obtain ⟨fd, hb, hF⟩ := DL.fd_all (P := (PySem.Challenge.rw_wordhandfuls_k76_whole_powers_and_least).prog) (w := w) (d := G76.d_law) (x := "script") (F := G76.F_law) hmg B.n_law G76.bn_law rfl B.d_law (Q := fun base => DL.BaseT K mg base) fun base hbt => G76.al_law B hbt
    exact ⟨K, fd, KX, TK, hT, hb, fun base _ _ hbt => hF base hbt⟩

set_option maxHeartbeats 4000000
namespace G76
/-! from P14a -/
open PySem PySem.Spec PyProof.Rows L2 DL
open FG (Red)
/-! # The plain law -/
theorem is_integer_int (i : Int) : F_is_integer [.d (.int i)] = .ok (.d (.bl true)) [some (.d (.int i))] := by rfl
theorem is_letter_int (r i : Int) : F_is_letter [.d (.int r), .d (.int i)] = .ok (.d (.bl (decide (1 ≤ (if i < 0 then -i else i)) && decide ((if i < 0 then -i else i) ≤ r)))) [some (.d (.int r)), some (.d (.int i))] := by
  by_cases h : 1 ≤ (if i < 0 then -i else i) <;> simp [F_is_letter, B_is_letter, is_integer_int, h]
theorem want_rank_ok (r : Int) (h1 : 1 ≤ r) (h2 : r ≤ 4) : F_want_rank [.d (.int r)] = .ok (.d .non) [some (.d (.int r))] := by
  simp [F_want_rank, B_want_rank, is_integer_int, h1, h2]
/-! ### draws -/
theorem gMul_int {i j : Int} (hi : i.natAbs < 2 ^ 64) (hj : j.natAbs < 2 ^ 64) : gMul (.int i) (.int j) = some (.fz (.int (i * j))) := by
  unfold gMul
  refine if_pos ?_
  have h1 : i.natAbs.log2 < 65 := by
    by_cases h : i.natAbs = 0
    · rw [h]; decide
    · exact Nat.lt_of_lt_of_le ((Nat.log2_lt h).mpr hi) (by decide)
  have h2 : j.natAbs.log2 < 65 := by
    by_cases h : j.natAbs = 0
    · rw [h]; decide
    · exact Nat.lt_of_lt_of_le ((Nat.log2_lt h).mpr hj) (by decide)
  omega
/-- one draw: the digit, the pot behind it -/
def drawn (a b n : Int) : Int × Int × Int := if 0 < a then (a % n, a / n, b) else ((((b * 40692 + 10597) % 2147483563 * ((b * 40692 + 10597) % 2147483563)) % 2147483549 / 19) % n, a, (b * 40692 + 10597) % 2147483563)
theorem draw_run (a b n : Int) (ha : 0 ≤ a) (hb : 0 ≤ b) (hb2 : b < 2147483648) (hn : 0 < n) (hn2 : n < 1000) :
    F__law_draw [.lst [.int a, .int b], .d (.int n)] = .ok (.d (.int (drawn a b n).1)) [some (.lst [.int (drawn a b n).2.1, .int (drawn a b n).2.2]), some (.d (.int n))] := by
  have hn3 : n < 1073741824 := by omega
  have l19 : Nat.log2 19 < 9000 := by decide +kernel
  by_cases h : 0 < a
  · simp [F__law_draw, B__law_draw, drawn, h, atI, ixN, hn, hn3]
  · have m1 : gMul (.int b) (.int 40692) = some (.fz (.int (b * 40692))) := gMul_int (by omega) (by decide)
    have c0 : 0 ≤ (b * 40692 + 10597) % 2147483563 := Int.emod_nonneg _ (by decide)
    have c1 : (b * 40692 + 10597) % 2147483563 < 2147483563 := Int.emod_lt_of_pos _ (by decide)
    have m2' := gMul_int (i := (b * 40692 + 10597) % 2147483563) (j := (b * 40692 + 10597) % 2147483563) (by omega) (by omega)
    simp [F__law_draw, B__law_draw, drawn, h, atI, ixN, hn, hn3, m1, m2', l19]
/-- what a pot is -/
def Pot (p : List D) : Prop := ∃ a b : Int, p = [.int a, .int b] ∧ 0 ≤ a ∧ 0 ≤ b ∧ b < 2147483648
theorem draw_ok {p : List D} (h : Pot p) (n : Int) (hn : 0 < n) (hn2 : n < 1000) : ∃ (k : Int) (p' : List D), Pot p' ∧ 0 ≤ k ∧ k < n ∧ F__law_draw [.lst p, .d (.int n)] = .ok (.d (.int k)) [some (.lst p'), some (.d (.int n))] := by
  obtain ⟨a, b, rfl, ha, hb, hb2⟩ := h
  refine ⟨_, _, ⟨_, _, rfl, ?_, ?_, ?_⟩, ?_, ?_, draw_run a b n ha hb hb2 hn hn2⟩
  · unfold drawn
    split
    · exact Int.ediv_nonneg ha (by omega)
    · exact ha
  · unfold drawn
    split
    · exact hb
    · exact Int.emod_nonneg _ (by decide)
  · unfold drawn
    split
    · exact hb2
    · exact Int.lt_trans (Int.emod_lt_of_pos _ (by decide)) (by decide)
  · unfold drawn
    split
    · exact Int.emod_nonneg _ (by omega)
    · exact Int.emod_nonneg _ (by omega)
  · unfold drawn
    split
    · exact Int.emod_lt_of_pos _ hn
    · exact Int.emod_lt_of_pos _ hn
theorem pick_ok {p : List D} (h : Pot p) (xs : List D) (h0 : 0 < xs.length) (h1 : xs.length < 1000) : ∃ (x : D) (p' : List D), Pot p' ∧ x ∈ xs ∧ F__law_pick [.lst p, .d (.lst xs)] = .ok (.d x) [some (.lst p'), some (.d (.lst xs))] := by
  obtain ⟨k, p', hp, k0, k1, e⟩ := draw_ok h (xs.length : Int) (by omega) (by omega)
  have hk : k.toNat < xs.length := by omega
  have at_ : atI xs k = some xs[k.toNat] := by
    unfold atI ixN
    rw [if_pos k0, if_pos k1]
    simp [hk]
  refine ⟨xs[k.toNat], p', hp, List.getElem_mem hk, ?_⟩
  simp [F__law_pick, B__law_pick, e, at_]
/-! ### words -/
/-- a letter of rank r -/
def Let (r i : Int) : Prop := i ≠ 0 ∧ -r ≤ i ∧ i ≤ r
def lets (r : Int) : List Int := if r = 1 then [1, -1] else if r = 2 then [1, -1, 2, -2] else if r = 3 then [1, -1, 2, -2, 3, -3] else [1, -1, 2, -2, 3, -3, 4, -4]
theorem lets_let {r : Int} (h1 : 1 ≤ r) (h2 : r ≤ 4) : ∀ i ∈ lets r, Let r i := by
  have : r = 1 ∨ r = 2 ∨ r = 3 ∨ r = 4 := by omega
  rcases this with rfl | rfl | rfl | rfl <;> (intro i hi; simp [lets] at hi; unfold Let; omega)
theorem lets_two {r : Int} (h1 : 1 ≤ r) (h2 : r ≤ 4) : 1 ∈ lets r ∧ -1 ∈ lets r := by
  have : r = 1 ∨ r = 2 ∨ r = 3 ∨ r = 4 := by omega
  rcases this with rfl | rfl | rfl | rfl <;> simp [lets]
theorem lets_len (r : Int) : (lets r).length ≤ 8 := by
  unfold lets
  split
  · decide
  · split
    · decide
    · split <;> decide
theorem red_snoc : ∀ {w : List Int} {a b : Int}, Red (w ++ [a]) → a + b ≠ 0 → Red (w ++ [a, b])
  | [], a, b, _, h => ⟨h, trivial⟩
  | [c], a, b, h, h2 => ⟨h.1, h2, trivial⟩
  | c :: d :: w, a, b, h, h2 => ⟨h.1, red_snoc (w := d :: w) h.2 h2⟩
def lastI (w : List Int) : Int := w.getLastD 0
/-- the state of _law_word's loop -/
def wSt (p : List D) (r m : Int) (w : List Int) (t s : Option S) : En := [some (.lst p), some (.d (.int r)), some (.d (.int m)), some (.d (.tup (dints w))), t, s, none]
def wSome (r : Int) (w : List Int) : List Int := (lets r).filter fun i => decide (w = []) || !decide (i = 0 - lastI w)
def B_wfil : FP := pLc [6] (iSeq (pFd F__law_letters (aCons (pName 1) aNil))) (gNm 6) (tOr (tVal (p2 gEq (pName 3) (pTup aNil))) (tVal (p2 gNe (pName 6) (p2 gSub (pCon (.int 0)) (p2 gIx (pName 3) (p1 gNeg (pCon (.int 1)))))))) (pName 6)
theorem atI_neg1 {α : Type} (xs : List α) (h : xs ≠ []) : atI xs (-1) = xs.getLast? := by
  unfold atI ixN
  have hl : 0 < xs.length := List.length_pos_iff.mpr h
  rw [if_neg (by decide), if_pos (by omega)]
  rw [List.getLast?_eq_getElem?]
  show xs[((-1 : Int) + (xs.length : Int)).toNat]? = _
  congr 1
  omega
theorem natAbs_let {r i : Int} (h2 : r ≤ 4) (h : Let r i) : i.natAbs < 2 ^ 64 := by
  obtain ⟨_, a, b⟩ := h
  omega
theorem getLastD_mem {w : List Int} (z : w ≠ []) : lastI w ∈ w := by
  unfold lastI
  cases w with
  | nil => exact absurd rfl z
  | cons a w => rw [List.getLastD_cons, ← List.getLast_eq_getLastD]; exact List.getLast_mem (by simp)
theorem last_dints {w : List Int} (z : w ≠ []) : atI (dints w) (-1) = some (.int (lastI w)) := by
  unfold lastI
  rw [show dints w = w.map .int from rfl, atI_map, atI_neg1 w z, List.getLast?_eq_some_getLast z]
  cases w with
  | nil => exact absurd rfl z
  | cons a w => simp [List.getLastD_cons, List.getLast_eq_getLastD, List.getLast?_cons]
abbrev tWf : FT := DL.tOr (tVal (p2 gEq (pName 3) (pTup aNil))) (tVal (p2 gNe (pName 6) (p2 DL.gSub (pCon (.int 0)) (p2 gIx (pName 3) (p1 gNeg (pCon (.int 1)))))))
theorem tWf_ok {e : En} {r i : Int} {w : List Int} (h2 : r ≤ 4) (hw : ∀ i ∈ w, Let r i) (hi : Let r i) (h3 : e[3]? = some (some (.d (.tup (dints w))))) (h6 : e[6]? = some (some (.d (.int i)))) : tWf e = some (decide (w = []) || !decide (i = 0 - lastI w)) := by
  have nw : (D.tup (dints w)).nice = true := nice_dints fun j hj => natAbs_let h2 (hw j hj)
  have dw : (D.tup (dints w)).dep ≤ 64 := by show depL (dints w) + 1 ≤ 64; rw [dep_dints]; decide
  have e1 : gEq (.tup (dints w)) (.tup []) = some (.fz (.bl (decide (w = [])))) := by
    rw [gEq_nice nw rfl dw (by decide)]
    have := eqb_tupI w []
    rw [dints_nil] at this
    rw [this]
  by_cases z : w = []
  · have e1' : gEq (.tup (dints w)) (.tup []) = some (.fz (.bl true)) := by rw [e1, decide_eq_true z]
    subst z
    simp at e1'
    simp [tWf, h3, e1']
  · have e1' : gEq (.tup (dints w)) (.tup []) = some (.fz (.bl false)) := by rw [e1, decide_eq_false z]
    have hL := hw _ (getLastD_mem z)
    have e2 : gNe (.int i) (.int (0 - lastI w)) = some (.fz (.bl (!decide (i = 0 - lastI w)))) := by
      rw [gNe_nice (nice_int (natAbs_let h2 hi)) (nice_int (by have := natAbs_let h2 hL; omega)) (Nat.zero_le _) (Nat.zero_le _), eqb_int]
    rw [Int.zero_sub] at e2 ⊢
    simp [tWf, h3, h6, e1', z, last_dints z, e2]
theorem wfil_list {e : En} {r : Int} {w : List Int} (h2 : r ≤ 4) (hw : ∀ i ∈ w, Let r i) (h3 : e[3]? = some (some (.d (.tup (dints w))))) (hl : e.length = 7) : ∀ v : List Int, (∀ i ∈ v, Let r i) →
    lcL (gNm 6) tWf (pName 6) e (dints v) = some (dints (v.filter fun i => decide (w = []) || !decide (i = 0 - lastI w)))
  | [], _ => rfl
  | i :: v, hv => by
    have ih := wfil_list h2 hw h3 hl v fun j hj => hv j (List.mem_cons_of_mem _ hj)
    have t := tWf_ok (e := e.set 6 (some (.d (.int i)))) h2 hw (hv i List.mem_cons_self) (by rw [List.getElem?_set_ne (by decide)]; exact h3) (by rw [List.getElem?_set_self (by omega)])
    rw [dints_cons]
    unfold lcL
    rw [show gNm 6 (.int i) e = some (e.set 6 (some (.d (.int i)))) from if_pos (by omega), Option.bind_some, t, Option.bind_some, ih]
    rw [List.filter_cons]
    cases decide (w = []) || !decide (i = 0 - lastI w) with
    | true => simp [hl]
    | false => rfl
theorem wSome_pos {r : Int} {w : List Int} (h1 : 1 ≤ r) (h2 : r ≤ 4) : 0 < (wSome r w).length := by
  obtain ⟨a, b⟩ := lets_two h1 h2
  unfold wSome
  by_cases z : lastI w = -1
  · refine List.length_pos_iff.mpr (List.ne_nil_of_mem (a := -1) (List.mem_filter.mpr ⟨b, ?_⟩))
    rw [z]
    simp
  · refine List.length_pos_iff.mpr (List.ne_nil_of_mem (a := 1) (List.mem_filter.mpr ⟨a, ?_⟩))
    simp
    right
    omega
theorem red_add {w : List Int} {i : Int} (h : Red w) (hi : w = [] ∨ i ≠ 0 - lastI w) : Red (w ++ [i]) := by
  rcases hi with rfl | hi
  · trivial
  · rcases List.eq_nil_or_concat w with rfl | ⟨w, a, rfl⟩
    · trivial
    · rw [List.concat_eq_append] at h hi ⊢
      rw [List.append_assoc]
      refine red_snoc h ?_
      have : lastI (w ++ [a]) = a := by unfold lastI; simp
      rw [this] at hi
      omega
/-- a word of rank r -/
def GW (r : Int) (w : List Int) : Prop := Red w ∧ ∀ i ∈ w, Let r i
abbrev B_wbody : FS := sSeq (sSet 5 (mPP (pLc [6] (iSeq (pFd F__law_letters (aCons (pName 1) aNil))) (gNm 6) tWf (pName 6)))) (sSet 3 (m2 gAdd (mPP (pName 3)) (mTup (lCons (mFd 2 F__law_pick (arBw 0 (arFz (mPP (pName 5)) arNil))) lNil))))
theorem let_cases {i : Int} (h : Let 4 i) : i = 1 ∨ i = 2 ∨ i = 3 ∨ i = 4 ∨ i = -1 ∨ i = -2 ∨ i = -3 ∨ i = -4 := by
  unfold Let at h
  omega
theorem let_up {r i : Int} (h2 : r ≤ 4) (h : Let r i) : Let 4 i := by unfold Let at *; omega
theorem gEq_empty (w : List Int) (h : ∀ i ∈ w, Let 4 i) : gEq (.tup (dints w)) (.tup []) = some (.fz (.bl (decide (w = [])))) := by
  have nw : (D.tup (dints w)).nice = true := nice_dints fun j hj => natAbs_let (Int.le_refl 4) (h j hj)
  have dw : (D.tup (dints w)).dep ≤ 64 := by show depL (dints w) + 1 ≤ 64; rw [dep_dints]; decide
  rw [gEq_nice nw rfl dw (by decide)]
  have := eqb_tupI w []
  rw [dints_nil] at this
  rw [this]
/-! ### is_word -/
def letB (r i : Int) : Bool := decide (1 ≤ (if i < 0 then -i else i)) && decide ((if i < 0 then -i else i) ≤ r)
theorem letB_iff {r i : Int} : letB r i = true ↔ Let r i := by
  unfold letB Let
  rw [Bool.and_eq_true, decide_eq_true_iff, decide_eq_true_iff]
  split <;> omega
def bl (b : Bool) : D := .bl b
theorem bls_bl : ∀ bs : List Bool, bls? (bs.map bl) = some bs
  | [] => rfl
  | b :: bs => by
    show (bls? (bs.map bl)).map (b :: ·) = _
    rw [bls_bl bs]
    rfl
theorem gAll_bl (bs : List Bool) : gAll [.lst (bs.map bl)] = some (.fz (.bl (bs.all id))) := by
  show (bls? (bs.map bl)).map _ = _
  rw [bls_bl]
  rfl
abbrev P_il : FP := pFd F_is_letter (aCons (pName 0) (aCons (pName 2) aNil))
theorem il_list (r : Int) (x y : Option S) : ∀ w : List Int, lcL (gNm 2) tAll P_il [some (.d (.int r)), x, y] (dints w) = some ((w.map (letB r)).map bl)
  | [] => rfl
  | i :: w => by
    rw [dints_cons]
    unfold lcL
    rw [show gNm 2 (.int i) [some (.d (.int r)), x, y] = some [some (.d (.int r)), x, some (.d (.int i))] from rfl, Option.bind_some]
    show ((P_il [some (.d (.int r)), x, some (.d (.int i))]).bind fun r' => r'.item.bind fun z => (lcL (gNm 2) tAll P_il [some (.d (.int r)), x, y] (dints w)).map fun xs => z :: xs) = _
    have e : P_il [some (.d (.int r)), x, some (.d (.int i))] = some (.fz (bl (letB r i))) := by
      show callP F_is_letter [.fz (.int r), .fz (.int i)] = _
      unfold callP
      show (match F_is_letter [.d (.int r), .d (.int i)] with | .ok s _ => _ | _ => none) = _
      rw [is_letter_int]
      rfl
    rw [e, il_list r x y w]
    rfl
theorem is_row_ok (r : Int) (w : List Int) (hl : w.length ≤ 200) : F_is_row [.d (.int r), .d (.tup (dints w))] = .ok (.d (.bl (w.all (letB r)))) [some (.d (.int r)), some (.d (.tup (dints w)))] := by
  have e2 : pLc [2] (iSeq (pName 1)) (gNm 2) tAll P_il [some (.d (.int r)), some (.d (.tup (dints w))), none] = some (.fr ((w.map (letB r)).map bl)) := by
    unfold pLc
    rw [show iSeq (pName 1) [some (.d (.int r)), some (.d (.tup (dints w))), none] = some (dints w, true) from rfl, Option.bind_some]
    show (lcL (gNm 2) tAll P_il [some (.d (.int r)), some (.d (.tup (dints w))), none] (dints w)).bind _ = _
    rw [il_list, Option.bind_some]
    refine if_pos ?_
    rw [List.length_map, List.length_map]
    unfold SZ
    omega
  have e3 : pCa gAll (aCons (pLc [2] (iSeq (pName 1)) (gNm 2) tAll P_il) aNil) [some (.d (.int r)), some (.d (.tup (dints w))), none] = some (.fz (.bl (w.all (letB r)))) := by
    unfold pCa aCons
    rw [e2]
    show gAll [.lst ((w.map (letB r)).map bl)] = _
    rw [gAll_bl, List.all_map]
    rfl
  have e4 : p2 gLe (pCa gLen (aCons (pName 1) aNil)) (pCon (.int 240)) [some (.d (.int r)), some (.d (.tup (dints w))), none] = some (.fz (.bl true)) := by
    show some (RV.fz (.bl (decide (((dints w).length : Int) ≤ 240)))) = _
    rw [decide_eq_true (by rw [dints_length]; omega)]
  have e5 : B_is_row [some (.d (.int r)), some (.d (.tup (dints w))), none] = .rt (.d (.bl (w.all (letB r)))) [some (.d (.int r)), some (.d (.tup (dints w))), none] :=
    ret_fz ((pAnd_t rfl).trans ((pAnd_t e4).trans e3))
  unfold F_is_row fnF
  rw [show enter 3 [.d (.int r), .d (.tup (dints w))] = [some (.d (.int r)), some (.d (.tup (dints w))), none] from rfl, e5]
  rfl
def redB : List Int → Bool
  | [] => true
  | [_] => true
  | a :: b :: w => !decide (a + b = 0) && redB (b :: w)
theorem redB_iff : ∀ {w : List Int}, redB w = true ↔ Red w
  | [] => by simp [redB, Red]
  | [_] => by simp [redB, Red]
  | a :: b :: w => by simp [redB, Red, redB_iff (w := b :: w)]
def pairsB : List Int → List Bool
  | [] => []
  | [_] => []
  | a :: b :: w => (!decide (a + b = 0)) :: pairsB (b :: w)
theorem pairsB_all : ∀ w : List Int, (pairsB w).all id = redB w
  | [] => rfl
  | [_] => rfl
  | a :: b :: w => by show ((!decide (a + b = 0)) && (pairsB (b :: w)).all id) = _; rw [pairsB_all (b :: w)]; rfl
theorem pairsB_len : ∀ w : List Int, (pairsB w).length ≤ w.length
  | [] => Nat.le_refl _
  | [_] => Nat.zero_le _
  | a :: b :: w => by show (pairsB (b :: w)).length + 1 ≤ _; have := pairsB_len (b :: w); simp at this ⊢; omega
def zp : List Int → List D
  | [] => []
  | [_] => []
  | a :: b :: w => .tup [.int a, .int b] :: zp (b :: w)
theorem zp_eq : ∀ w : List Int, zipD (dints w) ((dints w).drop 1) = zp w
  | [] => rfl
  | [_] => rfl
  | a :: b :: w => by
    have ih := zp_eq (b :: w)
    show .tup [.int a, .int b] :: zipD (dints (b :: w)) (dints w) = _
    rw [show dints w = (dints (b :: w)).drop 1 from rfl, ih]
    rfl
abbrev P_rd : FP := p2 gNe (p2 DL.gAdd (pName 1) (pName 2)) (pCon (.int 0))
abbrev G_rd : FG := gTp 2 (gsCons (gNm 1) (gsCons (gNm 2) gsNil))
theorem rd_list (x y z : Option S) : ∀ w : List Int, (∀ i ∈ w, Let 4 i) → lcL G_rd tAll P_rd [x, y, z] (zp w) = some ((pairsB w).map bl)
  | [], _ => rfl
  | [_], _ => rfl
  | a :: b :: w, h => by
    have ih := rd_list x y z (b :: w) fun j hj => h j (List.mem_cons_of_mem _ hj)
    show lcL G_rd tAll P_rd [x, y, z] (.tup [.int a, .int b] :: zp (b :: w)) = _
    unfold lcL
    rw [show G_rd (.tup [.int a, .int b]) [x, y, z] = some [x, some (.d (.int a)), some (.d (.int b))] from rfl, Option.bind_some]
    show ((P_rd [x, some (.d (.int a)), some (.d (.int b))]).bind fun r => r.item.bind fun q => (lcL G_rd tAll P_rd [x, y, z] (zp (b :: w))).map fun xs => q :: xs) = _
    have e : P_rd [x, some (.d (.int a)), some (.d (.int b))] = some (.fz (bl (!decide (a + b = 0)))) := by
      show gNe (.int (a + b)) (.int 0) = _
      have ha := h a List.mem_cons_self
      have hb := h b (List.mem_cons_of_mem _ List.mem_cons_self)
      unfold Let at ha hb
      rw [gNe_nice (nice_int (by omega)) (nice_int (by decide)) (Nat.zero_le _) (Nat.zero_le _), eqb_int]
      rfl
    rw [e, ih]
    rfl
theorem cut1 {α : Type} (xs : List α) : DL.cutD xs (some 1) none = xs.drop 1 := by
  unfold DL.cutD
  rw [show HT.sIx xs.length 0 (some 1) = min 1 xs.length from HT.sIx_nat _ _ 1, HT.sIx_none]
  cases xs with
  | nil => rfl
  | cons a xs => simp
theorem is_reduced_ok (w : List Int) (h : ∀ i ∈ w, Let 4 i) (hl : w.length ≤ 200) : F_is_reduced [.d (.tup (dints w))] = .ok (.d (.bl (redB w))) [some (.d (.tup (dints w)))] := by
  have e1 : iZip (aCons (pName 0) (aCons (pSl (pName 0) (oSome (pCon (.int 1))) oNone) aNil)) [some (.d (.tup (dints w))), none, none] = some (zp w, true) := by
    show zipR [.fz (.tup (dints w)), .fz (.tup (DL.cutD (dints w) (some 1) none))] = _
    rw [cut1]
    show some (zipD (dints w) ((dints w).drop 1), true) = _
    rw [zp_eq]
  have e2 : pLc [1, 2] (iZip (aCons (pName 0) (aCons (pSl (pName 0) (oSome (pCon (.int 1))) oNone) aNil))) G_rd tAll P_rd [some (.d (.tup (dints w))), none, none] = some (.fr ((pairsB w).map bl)) := by
    unfold pLc
    rw [e1, Option.bind_some]
    show (lcL G_rd tAll P_rd [some (.d (.tup (dints w))), none, none] (zp w)).bind _ = _
    rw [rd_list _ _ _ w h, Option.bind_some]
    refine if_pos ?_
    rw [List.length_map]
    have := pairsB_len w
    unfold SZ
    omega
  have e3 : B_is_reduced [some (.d (.tup (dints w))), none, none] = .rt (.d (.bl (redB w))) [some (.d (.tup (dints w))), none, none] :=
    ret_fz ((pCa_ok (aCons_ok e2 (rs := []) rfl)).trans ((gAll_bl (pairsB w)).trans (by rw [pairsB_all])))
  unfold F_is_reduced fnF
  rw [show enter 3 [.d (.tup (dints w))] = [some (.d (.tup (dints w))), none, none] from rfl, e3]
  rfl

def wordB (r : Int) (w : List Int) : Bool := w.all (letB r) && (decide (w.length ≤ 60) && redB w)
theorem is_word_ok (r : Int) (w : List Int) (h : ∀ i ∈ w, Let 4 i) (hl : w.length ≤ 200) : F_is_word [.d (.int r), .d (.tup (dints w))] = .ok (.d (.bl (wordB r w))) [some (.d (.int r)), some (.d (.tup (dints w)))] := by
  have e1 : pFd F_is_row (aCons (pName 0) (aCons (pName 1) aNil)) [some (.d (.int r)), some (.d (.tup (dints w)))] = some (.fz (.bl (w.all (letB r)))) :=
    (pFd_ok (rs := [.fz (.int r), .fz (.tup (dints w))]) rfl).trans (callP_fz (is_row_ok r w hl) (.inr rfl))
  have e2 : p2 gLe (pCa gLen (aCons (pName 1) aNil)) (pCon (.int 60)) [some (.d (.int r)), some (.d (.tup (dints w)))] = some (.fz (.bl (decide (w.length ≤ 60)))) := by
    show some (RV.fz (.bl (decide (((dints w).length : Int) ≤ 60)))) = _
    rw [dints_length]
    congr 3
    rw [decide_eq_decide]
    omega
  have e3 : pFd F_is_reduced (aCons (pName 1) aNil) [some (.d (.int r)), some (.d (.tup (dints w)))] = some (.fz (.bl (redB w))) :=
    (pFd_ok (rs := [.fz (.tup (dints w))]) rfl).trans (callP_fz (is_reduced_ok w h hl) (.inr rfl))
  have e4 : B_is_word [some (.d (.int r)), some (.d (.tup (dints w)))] = .rt (.d (.bl (wordB r w))) [some (.d (.int r)), some (.d (.tup (dints w)))] := by
    refine ret_fz ?_
    unfold wordB
    cases h1 : w.all (letB r) with
    | false => rw [h1] at e1; exact pAnd_f e1
    | true =>
      rw [h1] at e1
      refine (pAnd_t e1).trans ?_
      cases h2 : decide (w.length ≤ 60) with
      | false => rw [h2] at e2; exact pAnd_f e2
      | true => rw [h2] at e2; exact (pAnd_t e2).trans e3
  unfold F_is_word fnF
  rw [show enter 2 [.d (.int r), .d (.tup (dints w))] = [some (.d (.int r)), some (.d (.tup (dints w)))] from rfl, e4]
  rfl
theorem gw_wordB {r : Int} {w : List Int} (h : GW r w) (hl : w.length ≤ 60) : wordB r w = true := by
  unfold wordB
  rw [redB_iff.mpr h.1, decide_eq_true hl, List.all_eq_true.mpr fun i hi => letB_iff.mpr (h.2 i hi)]
  rfl
theorem expr_fz {f : FP} {e : En} {x : D} (h : f e = some (.fz x)) : sExpr (mPP f) e = .nx e := by unfold sExpr mPP; rw [h]; rfl
/-! from P14b -/
open PySem PySem.Spec PyProof.Rows L2 DL
open FG (Red red inv pw push stk)
/-! ### words as data -/
abbrev tw (w : List Int) : D := .tup (dints w)
def L4 (w : List Int) : Prop := ∀ i ∈ w, Let 4 i
theorem nice_tw {w : List Int} (h : L4 w) : (tw w).nice = true := nice_dints fun j hj => natAbs_let (Int.le_refl 4) (h j hj)
theorem dep_tw (w : List Int) : (tw w).dep ≤ 64 := by show depL (dints w) + 1 ≤ 64; rw [dep_dints]; decide
theorem gEq_tw {v w : List Int} (hv : L4 v) (hw : L4 w) : gEq (tw v) (tw w) = some (.fz (.bl (decide (v = w)))) := by
  rw [gEq_nice (nice_tw hv) (nice_tw hw) (dep_tw v) (dep_tw w), eqb_tupI]
theorem gNe_tw {v w : List Int} (hv : L4 v) (hw : L4 w) : gNe (tw v) (tw w) = some (.fz (.bl (!decide (v = w)))) := by
  rw [gNe_nice (nice_tw hv) (nice_tw hw) (dep_tw v) (dep_tw w), eqb_tupI]
theorem gEq_int {i j : Int} (hi : i.natAbs < 2 ^ 64) (hj : j.natAbs < 2 ^ 64) : gEq (.int i) (.int j) = some (.fz (.bl (decide (i = j)))) := by
  rw [gEq_nice (nice_int hi) (nice_int hj) (Nat.zero_le _) (Nat.zero_le _), eqb_int]
theorem gNe_int {i j : Int} (hi : i.natAbs < 2 ^ 64) (hj : j.natAbs < 2 ^ 64) : gNe (.int i) (.int j) = some (.fz (.bl (!decide (i = j)))) := by
  rw [gNe_nice (nice_int hi) (nice_int hj) (Nat.zero_le _) (Nat.zero_le _), eqb_int]
theorem flat_dints : ∀ w : List Int, flatL (dints w) = true
  | [] => rfl
  | i :: w => by
    show ((D.int i).flat && flatL (dints w)) = true
    rw [flat_dints w]
    rfl
theorem L4.nil : L4 [] := fun _ h => nomatch h
theorem L4.app {v w : List Int} (hv : L4 v) (hw : L4 w) : L4 (v ++ w) := fun i hi => by
  rcases List.mem_append.mp hi with h | h
  · exact hv i h
  · exact hw i h
theorem L4.l {v w : List Int} (h : L4 (v ++ w)) : L4 v := fun i hi => h i (List.mem_append_left _ hi)
theorem L4.r {v w : List Int} (h : L4 (v ++ w)) : L4 w := fun i hi => h i (List.mem_append_right _ hi)
theorem L4.inv {w : List Int} (h : L4 w) : L4 (inv w) := fun i hi => by
  have := h _ (FG.mem_inv.mp hi)
  unfold Let at *
  omega
theorem L4.red {w : List Int} (h : L4 w) : L4 (red w) := fun i hi => h i (FG.mem_red hi)
theorem L4.pw {w : List Int} (h : L4 w) : ∀ n, L4 (pw w n)
  | 0 => L4.nil
  | n + 1 => h.app (L4.pw h n)
theorem L4.z {w : List Int} (h : L4 w) : ∀ i ∈ w, i ≠ 0 := fun i hi => (h i hi).1
theorem L4.take {w : List Int} (h : L4 w) (n : Nat) : L4 (w.take n) := fun i hi => h i (List.mem_of_mem_take hi)
theorem gw4 {r : Int} {w : List Int} (h2 : r ≤ 4) (h : GW r w) : L4 w := fun i hi => let_up h2 (h.2 i hi)
theorem dints_reverse (w : List Int) : dints w.reverse = (dints w).reverse := List.map_reverse ..
theorem dints_take (w : List Int) (n : Nat) : dints (w.take n) = (dints w).take n := List.map_take ..
theorem dints_drop (w : List Int) (n : Nat) : dints (w.drop n) = (dints w).drop n := List.map_drop ..
theorem cut_to {α : Type} (xs : List α) (n : Nat) : DL.cutD xs none (some (n : Int)) = xs.take n := by
  unfold DL.cutD
  rw [HT.sIx_nat, HT.sIx_none, List.drop_zero, Nat.sub_zero]
  by_cases h : n ≤ xs.length
  · rw [Nat.min_eq_left h]
  · rw [Nat.min_eq_right (by omega), List.take_of_length_le (Nat.le_refl _), List.take_of_length_le (by omega)]
theorem cut_mid {α : Type} (xs : List α) {m n : Nat} (h : n ≤ xs.length) (h2 : m ≤ n) : DL.cutD xs (some (m : Int)) (some (n : Int)) = (xs.drop m).take (n - m) := by
  unfold DL.cutD
  rw [HT.sIx_nat, HT.sIx_nat, Nat.min_eq_left h, Nat.min_eq_left (by omega)]
/-! ### reduced_of -/
abbrev B_ro : FS := sIf (tMT (DL.tAnd (tVal (p2 gNe (pName 1) (pLst aNil))) (tVal (p2 gEq (p2 DL.gAdd (p2 gIx (pName 1) (p1 gNeg (pCon (.int 1)))) (pName 2)) (pCon (.int 0)))))) (sExpr (chg0 1 gPop)) (sExpr (mMt 1 gApp (mPP (pName 2))))
theorem last_int (r : List Int) (b : Int) : atI (dints (r ++ [b])) (-1) = some (.int b) := by
  rw [last_dints (by simp)]
  unfold lastI
  simp
theorem ro_step (x : Option S) {s : List Int} {a : Int} (hs : L4 s) (ha : Let 4 a) (hl : s.length < 100000) : B_ro [x, some (.lst (dints s.reverse)), some (.d (.int a))] = .nx [x, some (.lst (dints (push s a).reverse)), some (.d (.int a))] := by
  cases s with
  | nil =>
    have e : gNe (.lst []) (.lst []) = some (.fz (.bl false)) := by
      rw [gNe_nice rfl rfl (by decide) (by decide)]
      exact congrArg (fun b => some (RV.fz (.bl b))) (by rw [eqb_refl rfl]; rfl)
    have z : 0 < SZ := by decide
    simp [B_ro, e, push, z]
  | cons b r =>
    have hb := hs b List.mem_cons_self
    have hsr : L4 (r.reverse ++ [b]) := fun i hi => hs i (by simpa [or_comm] using hi)
    have e1 : gNe (.lst (dints (r.reverse ++ [b]))) (.lst []) = some (.fz (.bl true)) := by
      have := eqb_lstI (r.reverse ++ [b]) []
      rw [dints_nil] at this
      rw [gNe_nice (x := .lst (dints (r.reverse ++ [b]))) (y := .lst []) (nice_dints fun j hj => natAbs_let (Int.le_refl 4) (hsr j hj)) rfl (by show depL _ + 1 ≤ 64; rw [dep_dints]; decide) (by decide), this]
      simp
    have e2 := last_int r.reverse b
    have e3 : gEq (.int (b + a)) (.int 0) = some (.fz (.bl (decide (b + a = 0)))) := gEq_int (by unfold Let at *; omega) (by decide)
    have e4 : (dints (r.reverse ++ [b])).length < SZ := by
      rw [dints_length]
      simp at hl ⊢
      unfold SZ
      omega
    have e5 : (dints (r.reverse ++ [b]))[(dints (r.reverse ++ [b])).length - 1]? = some (.int b) := by
      rw [← List.getLast?_eq_getElem?, dints_append]
      simp
    have e6 : (dints (r.reverse ++ [b])).dropLast = dints r.reverse := by
      rw [dints_append]
      simp
    have e7 : dints (r.reverse ++ [b]) ++ [.int a] = dints ((a :: b :: r).reverse) := by
      have : (a :: b :: r).reverse = (r.reverse ++ [b]) ++ [a] := by simp
      rw [this, dints_append (r.reverse ++ [b])]
      rfl
    have er : dints (b :: r).reverse = dints (r.reverse ++ [b]) := by rw [List.reverse_cons]
    rw [FG.push_eq, er]
    generalize dints (r.reverse ++ [b]) = X at *
    by_cases q : b + a = 0
    · rw [decide_eq_true q] at e3
      rw [if_pos q]
      simp [B_ro, e1, e2, e3, e5, e6]
    · rw [decide_eq_false q] at e3
      rw [if_neg q]
      simp [B_ro, e1, e2, e3, e4]
      simpa using e7
theorem L4.push {s : List Int} {a : Int} (hs : L4 s) (ha : Let 4 a) : L4 (push s a) := fun i hi => by
  rcases FG.mem_push hi with h | h
  · exact hs i h
  · rw [h]; exact ha
theorem ro_loop (x : Option S) : ∀ (w : List Int) {s : List Int} {t : Option S}, L4 s → L4 w → s.length + w.length < 100000 → ∃ t', forL (gNm 2) B_ro (dints w) [x, some (.lst (dints s.reverse)), t] = .nx [x, some (.lst (dints (stk w s).reverse)), t']
  | [], s, t, _, _, _ => ⟨t, rfl⟩
  | a :: w, s, t, hs, hw, hl => by
    rw [List.length_cons] at hl
    have ha := hw a List.mem_cons_self
    have step := ro_step x hs ha (by omega)
    have := FG.push_len s a
    obtain ⟨t', ih⟩ := ro_loop x w (s := push s a) (t := some (.d (.int a))) (hs.push ha) (fun i hi => hw i (List.mem_cons_of_mem _ hi)) (by omega)
    refine ⟨t', ?_⟩
    rw [dints_cons]
    unfold forL
    rw [show gNm 2 (.int a) [x, some (.lst (dints s.reverse)), t] = some [x, some (.lst (dints s.reverse)), some (.d (.int a))] from rfl]
    simp only [step]
    exact ih
theorem reduced_of_ok {w : List Int} (h : L4 w) (hl : w.length < 100000) : F_reduced_of [.d (.lst (dints w))] = .ok (.d (tw (red w))) [some (.d (.lst (dints w)))] := by
  obtain ⟨t', e⟩ := ro_loop (some (.d (.lst (dints w)))) w (s := []) (t := none) L4.nil h (by simpa using hl)
  have q1 : sSetO 1 (mPP (pLst aNil)) [some (.d (.lst (dints w))), none, none] = .nx [some (.d (.lst (dints w))), some (.lst []), none] := by simp
  have q2 : sFor (iSeq (pName 0)) (gNm 2) B_ro [some (.d (.lst (dints w))), some (.lst []), none] = .nx [some (.d (.lst (dints w))), some (.lst (dints (stk w []).reverse)), t'] := e
  have q3 : B_reduced_of [some (.d (.lst (dints w))), none, none] = .rt (.d (tw (red w))) [some (.d (.lst (dints w))), some (.lst (dints (stk w []).reverse)), t'] := (seq_nx q1).trans ((seq_nx q2).trans (ret_fz rfl))
  unfold F_reduced_of fnF
  rw [show enter 3 [.d (.lst (dints w))] = [some (.d (.lst (dints w))), none, none] from rfl, q3]
  rfl
/-! ### undone_of -/
abbrev P_ud : FP := p2 DL.gSub (pCon (.int 0)) (pName 1)
theorem ud_list (x y : Option S) : ∀ w : List Int, lcL (gNm 1) tAll P_ud [x, y] (dints w) = some (dints (w.map fun a => -a))
  | [] => rfl
  | i :: w => by
    rw [dints_cons]
    unfold lcL
    show ((P_ud [x, some (.d (.int i))]).bind fun r => r.item.bind fun z => (lcL (gNm 1) tAll P_ud [x, y] (dints w)).map fun xs => z :: xs) = _
    rw [ud_list x y w]
    show some (D.int (0 - i) :: dints (w.map fun a => -a)) = _
    rw [Int.zero_sub]
    rfl
theorem ud_run {w : List Int} (hl : w.length ≤ 100000) : sRet (mPP (pCa gTuple (aCons (pLc [1] (iSeq (pRev (pName 0))) (gNm 1) tAll P_ud) aNil))) [some (.d (tw w)), none] = .rt (.d (tw (inv w))) [some (.d (tw w)), none] := by
  refine ret_fz ((pCa_ok (aCons_ok (rs := []) (pLc_ok (ds := dints w.reverse) (b := true) (xs := dints (inv w)) ?_ ?_ ?_) rfl)).trans rfl)
  · rw [dints_reverse]; rfl
  · rw [show wipeE [some (.d (tw w)), none] [1] = [some (.d (tw w)), none] from rfl, ud_list]
    unfold inv
    rw [List.map_reverse]
  · rw [dints_length, FG.inv_length]
    unfold SZ
    omega
theorem undone_of_ok {w : List Int} (hl : w.length ≤ 100000) : F_undone_of [.d (tw w)] = .ok (.d (tw (inv w))) [some (.d (tw w))] := by
  unfold F_undone_of fnF
  rw [show enter 2 [.d (tw w)] = [some (.d (tw w)), none] from rfl, show B_undone_of [some (.d (tw w)), none] = _ from ud_run hl]
  rfl
theorem law_undone_ok {w : List Int} (hl : w.length ≤ 100000) : F__law_undone [.d (tw w)] = .ok (.d (tw (inv w))) [some (.d (tw w))] := by
  unfold F__law_undone fnF
  rw [show enter 2 [.d (tw w)] = [some (.d (tw w)), none] from rfl, show B__law_undone [some (.d (tw w)), none] = _ from ud_run hl]
  rfl
/-! ### put_together -/
abbrev B_pt : FS := sExpr (mMt 1 gExt (mPP (pCa gList (aCons (pName 2) aNil))))
theorem pt_loop (x : Option S) : ∀ (ws : List (List Int)) {acc : List Int} {t : Option S}, acc.length + ws.flatten.length ≤ 100000 → ∃ t', forL (gNm 2) B_pt (ws.map tw) [x, some (.lst (dints acc)), t] = .nx [x, some (.lst (dints (acc ++ ws.flatten))), t']
  | [], acc, t, _ => ⟨t, by rw [List.flatten_nil, List.append_nil]; rfl⟩
  | w :: ws, acc, t, hl => by
    rw [List.flatten_cons, List.length_append] at hl
    obtain ⟨t', ih⟩ := pt_loop x ws (acc := acc ++ w) (t := some (.d (tw w))) (by rw [List.length_append]; omega)
    refine ⟨t', ?_⟩
    have z : acc.length + w.length ≤ SZ := by unfold SZ; omega
    have step : B_pt [x, some (.lst (dints acc)), some (.d (tw w))] = .nx [x, some (.lst (dints (acc ++ w))), some (.d (tw w))] := by
      simp [B_pt, z, dints_append]
    rw [List.map_cons]
    unfold forL
    rw [show gNm 2 (tw w) [x, some (.lst (dints acc)), t] = some [x, some (.lst (dints acc)), some (.d (tw w))] from rfl]
    simp only [step]
    rw [List.flatten_cons, ← List.append_assoc]
    exact ih
theorem put_together_ok {ws : List (List Int)} (h : L4 ws.flatten) (hl : ws.flatten.length < 100000) : F_put_together [.d (.lst (ws.map tw))] = .ok (.d (tw (red ws.flatten))) [some (.d (.lst (ws.map tw)))] := by
  obtain ⟨t', e⟩ := pt_loop (some (.d (.lst (ws.map tw)))) ws (acc := []) (t := none) (by simpa using Nat.le_of_lt hl)
  rw [List.nil_append] at e
  have q1 : sSetO 1 (mPP (pLst aNil)) [some (.d (.lst (ws.map tw))), none, none] = .nx [some (.d (.lst (ws.map tw))), some (.lst []), none] := by simp
  have q2 : sFor (iSeq (pName 0)) (gNm 2) B_pt [some (.d (.lst (ws.map tw))), some (.lst []), none] = .nx [some (.d (.lst (ws.map tw))), some (.lst (dints ws.flatten)), t'] := e
  have q3 : B_put_together [some (.d (.lst (ws.map tw))), none, none] = .rt (.d (tw (red ws.flatten))) [some (.d (.lst (ws.map tw))), some (.lst (dints ws.flatten)), t'] :=
    (seq_nx q1).trans ((seq_nx q2).trans (ret_fz ((pFd_ok (rs := [.ow (dints ws.flatten)]) rfl).trans (callP_fz (reduced_of_ok h hl) (.inr (flat_dints _))))))
  unfold F_put_together fnF
  rw [show enter 3 [.d (.lst (ws.map tw))] = [some (.d (.lst (ws.map tw))), none, none] from rfl, q3]
  rfl
theorem flat_rep (w : List Int) : ∀ n, (List.replicate n w).flatten = pw w n
  | 0 => rfl
  | n + 1 => by
    rw [List.replicate_succ, List.flatten_cons, flat_rep w n]
    rfl
theorem rep_one {α : Type} (a : α) : ∀ n, (List.replicate n [a]).flatten = List.replicate n a
  | 0 => rfl
  | n + 1 => by
    rw [List.replicate_succ, List.flatten_cons, rep_one a n]
    rfl
theorem gMul_rep (d : D) {k : Int} (h : k.natAbs ≤ 10000) : gMul (.lst [d]) (.int k) = some (.fr (List.replicate k.toNat d)) := by
  unfold gMul
  rw [← rep_one]
  refine if_pos ⟨by omega, by omega, ?_⟩
  have : k.toNat ≤ 10000 := by omega
  simp
  unfold SZ
  omega
/-! ### while -/
theorem wh_t {fc : FM} {fb : FS} {n : Nat} {e e1 e2 : En} (h : fc e = .ok (.d (.bl true)) e1) (h2 : fb e1 = .nx e2) : whileF fc fb (n + 1) e = whileF fc fb n e2 := by
  show (match fc e with
    | .ok (.d (.bl b)) e1 => if b = true then (match fb e1 with
      | .nx e2 => whileF fc fb n e2
      | .ct e2 => whileF fc fb n e2
      | .bk e2 => .nx e2
      | o => o) else .nx e1
    | .ex x e1 => .ex x e1
    | _ => .stuck) = _
  rw [h]
  simp only [if_true, h2]
theorem wh_f {fc : FM} {fb : FS} {n : Nat} {e e1 : En} (h : fc e = .ok (.d (.bl false)) e1) : whileF fc fb (n + 1) e = .nx e1 := by
  show (match fc e with
    | .ok (.d (.bl b)) e1 => if b = true then (match fb e1 with
      | .nx e2 => whileF fc fb n e2
      | .ct e2 => whileF fc fb n e2
      | .bk e2 => .nx e2
      | o => o) else .nx e1
    | .ex x e1 => .ex x e1
    | _ => .stuck) = _
  rw [h]
  rfl
theorem tMT_ok {ft : FT} {e : En} {b : Bool} (h : ft e = some b) : tMT ft e = .ok (.d (.bl b)) e := by unfold tMT; rw [h]
/-! ### ring_of -/
theorem at_mid (h m : List Int) (a : Int) : atI (dints (h ++ a :: m)) (h.length : Int) = some (.int a) := by
  rw [show dints (h ++ a :: m) = (h ++ a :: m).map D.int from rfl, atI_map]
  unfold atI ixN
  rw [if_pos (by omega), if_pos (by simp; omega)]
  simp
abbrev T_rg : FT := DL.tAnd (tVal (p2 DL.gLt (pName 1) (p2 DL.gSub (p2 DL.gSub (pCa gLen (aCons (pName 0) aNil)) (pCon (.int 1))) (pName 1)))) (tVal (p2 gEq (p2 DL.gAdd (p2 gIx (pName 0) (pName 1)) (p2 gIx (pName 0) (p2 DL.gSub (p2 DL.gSub (pCa gLen (aCons (pName 0) aNil)) (pCon (.int 1))) (pName 1)))) (pCon (.int 0))))
abbrev B_rg : FS := sSet 1 (mPP (p2 DL.gAdd (pName 1) (pCon (.int 1))))
theorem rg_loop {w : List Int} (hw : L4 w) : ∀ (n : Nat) {h m : List Int}, m.length ≤ n → m ≠ [] → w = h ++ m ++ inv h → Red m → ∃ h' c, FG.Rg w h' c ∧ ∀ fu, n < fu → whileF (tMT T_rg) B_rg fu [some (.d (tw w)), some (.d (.int (h.length : Int)))] = .nx [some (.d (tw w)), some (.d (.int (h'.length : Int)))]
  | 0, h, m, hn, hm, _, _ => absurd (List.length_eq_zero_iff.mp (by omega)) hm
  | n + 1, h, m, hn, hm, e, hr => by
    match m, hm, e, hr, hn with
    | [a], _, e, hr, hn =>
      have ha : a ≠ 0 := hw.z a (by rw [e]; simp)
      refine ⟨h, [a], ⟨e, FG.cyc_one ha⟩, fun fu hfu => ?_⟩
      obtain ⟨fu, rfl⟩ : ∃ k, fu = k + 1 := ⟨fu - 1, by omega⟩
      refine wh_f (tMT_ok ?_)
      have hl : w.length = h.length + 1 + h.length := by rw [e]; simp [FG.inv_length]; omega
      have t1 : tVal (p2 DL.gLt (pName 1) (p2 DL.gSub (p2 DL.gSub (pCa gLen (aCons (pName 0) aNil)) (pCon (.int 1))) (pName 1))) [some (.d (tw w)), some (.d (.int (h.length : Int)))] = some false := by
        show some (decide ((h.length : Int) < ((dints w).length : Int) - 1 - (h.length : Int))) = _
        rw [dints_length, hl, decide_eq_false (by omega)]
      unfold T_rg DL.tAnd
      rw [t1]
      rfl
    | a :: d :: t, _, e, hr, hn =>
      obtain ⟨m, b, q⟩ : ∃ m b, d :: t = m ++ [b] := by
        rcases List.eq_nil_or_concat (d :: t) with q | ⟨m, b, q⟩
        · cases q
        · exact ⟨m, b, by rw [q, List.concat_eq_append]⟩
      rw [q] at e hr hn
      have hl : w.length = h.length + (m.length + 2) + h.length := by rw [e]; simp [FG.inv_length]; omega
      have t1 : tVal (p2 DL.gLt (pName 1) (p2 DL.gSub (p2 DL.gSub (pCa gLen (aCons (pName 0) aNil)) (pCon (.int 1))) (pName 1))) [some (.d (tw w)), some (.d (.int (h.length : Int)))] = some true := by
        show some (decide ((h.length : Int) < ((dints w).length : Int) - 1 - (h.length : Int))) = _
        rw [dints_length, hl, decide_eq_true (by omega)]
      have x1 : atI (dints w) (h.length : Int) = some (.int a) := by
        have := at_mid h (m ++ [b] ++ inv h) a
        rw [show h ++ a :: (m ++ [b] ++ inv h) = w by rw [e]; simp] at this
        exact this
      have x2 : atI (dints w) (((dints w).length : Int) - 1 - (h.length : Int)) = some (.int b) := by
        have := at_mid (h ++ a :: m) (inv h) b
        rw [show (h ++ a :: m) ++ b :: inv h = w by rw [e]; simp] at this
        rw [← this, dints_length, hl]
        congr 1
        simp
        omega
      have ha : Let 4 a := hw a (by rw [e]; simp)
      have hb : Let 4 b := hw b (by rw [e]; simp)
      have t2 : tVal (p2 gEq (p2 DL.gAdd (p2 gIx (pName 0) (pName 1)) (p2 gIx (pName 0) (p2 DL.gSub (p2 DL.gSub (pCa gLen (aCons (pName 0) aNil)) (pCon (.int 1))) (pName 1)))) (pCon (.int 0))) [some (.d (tw w)), some (.d (.int (h.length : Int)))] = some (decide (a + b = 0)) := by
        have y1 : p2 gIx (pName 0) (pName 1) [some (.d (tw w)), some (.d (.int (h.length : Int)))] = some (.fz (.int a)) := by
          show (atI (dints w) (h.length : Int)).map RV.fz = _
          rw [x1]
          rfl
        have y2 : p2 gIx (pName 0) (p2 DL.gSub (p2 DL.gSub (pCa gLen (aCons (pName 0) aNil)) (pCon (.int 1))) (pName 1)) [some (.d (tw w)), some (.d (.int (h.length : Int)))] = some (.fz (.int b)) := by
          show (atI (dints w) (((dints w).length : Int) - 1 - (h.length : Int))).map RV.fz = _
          rw [x2]
          rfl
        have y3 : p2 DL.gAdd (p2 gIx (pName 0) (pName 1)) (p2 gIx (pName 0) (p2 DL.gSub (p2 DL.gSub (pCa gLen (aCons (pName 0) aNil)) (pCon (.int 1))) (pName 1))) [some (.d (tw w)), some (.d (.int (h.length : Int)))] = some (.fz (.int (a + b))) := (p2_ok y1 y2).trans rfl
        exact tVal_ok ((p2_ok y3 (b := .fz (.int 0)) rfl).trans (gEq_int (by unfold Let at *; omega) (by decide)))
      have T : T_rg [some (.d (tw w)), some (.d (.int (h.length : Int)))] = some (decide (a + b = 0)) := by
        unfold T_rg DL.tAnd
        rw [t1]
        exact t2
      by_cases k : a + b = 0
      · have hm : m ≠ [] := fun z => by subst z; exact hr.1 k
        obtain ⟨h', c, g, ih⟩ := rg_loop hw n (h := h ++ [a]) (m := m) (by simp at hn; omega) hm (by rw [e]; exact FG.rg_step k) (FG.red_mid hr)
        refine ⟨h', c, g, fun fu hfu => ?_⟩
        obtain ⟨fu, rfl⟩ : ∃ k, fu = k + 1 := ⟨fu - 1, by omega⟩
        rw [decide_eq_true k] at T
        refine (wh_t (tMT_ok T) (e2 := [some (.d (tw w)), some (.d (.int ((h ++ [a]).length : Int)))]) ?_).trans (ih fu (by omega))
        have : ((h ++ [a]).length : Int) = (h.length : Int) + 1 := by simp
        rw [this]
        rfl
      · refine ⟨h, a :: m ++ [b], ⟨e, FG.cyc_of hr k⟩, fun fu hfu => ?_⟩
        obtain ⟨fu, rfl⟩ : ∃ k, fu = k + 1 := ⟨fu - 1, by omega⟩
        rw [decide_eq_false k] at T
        exact wh_f (tMT_ok T)
/-! from P14c -/
open PySem PySem.Spec PyProof.Rows L2 DL
open FG (Red red inv pw push stk)
/-! ### periods -/
theorem range_cons (lo : Int) (n : Nat) : rangeD lo (n + 1) = .int lo :: rangeD (lo + 1) n := by
  unfold rangeD
  rw [List.range_succ_eq_map, List.map_cons, List.map_map]
  congr 1
  · simp
  · refine List.map_congr_left fun i _ => ?_
    show D.int (lo + ((i + 1 : Nat) : Int)) = .int (lo + 1 + (i : Int))
    congr 1
    omega
def perB (c : List Int) (l : Nat) : Bool := decide (c = pw (c.take l) (c.length / l))
theorem perB_iff {c : List Int} {l : Nat} (h0 : 1 ≤ l) (h1 : l ≤ c.length) : perB c l = true ↔ FG.Per c l := by
  unfold perB FG.Per
  rw [decide_eq_true_iff]
  exact ⟨fun h => ⟨h0, h1, h⟩, fun h => h.2.2⟩
theorem dints_flat (ws : List (List Int)) : (ws.map dints).flatten = dints ws.flatten := by
  unfold dints
  rw [List.map_flatten]
theorem dints_rep (w : List Int) (n : Nat) : (List.replicate n (dints w)).flatten = dints (pw w n) := by
  rw [← flat_rep, ← dints_flat, List.map_replicate]
theorem gMul_tup {w : List Int} {k : Nat} (hw : w ≠ []) (hk : 1 ≤ k) (hk2 : k ≤ 1000) (hl : w.length ≤ 1000) : gMul (tw w) (.int (k : Int)) = some (.fz (tw (pw w k))) := by
  have ne : dints w ≠ [] := fun h => hw (by
    have := congrArg List.length h
    rw [dints_length] at this
    exact List.length_eq_zero_iff.mp this)
  show (if dints w ≠ [] ∧ (2 : Int) ≤ (k : Int) ∧ (k : Int) ≤ 1000 ∧ (dints w).length ≤ 1000 then some (RV.fz (D.tup (List.replicate (k : Int).toNat (dints w)).flatten)) else if (dints w = [] ∨ (k : Int) = 1) ∧ -1000 ≤ (k : Int) ∧ (k : Int) ≤ 1000 then some (RV.fz (.tup (dints w))) else none) = _
  by_cases q : 2 ≤ k
  · rw [if_pos ⟨ne, by omega, by omega, by rw [dints_length]; exact hl⟩]
    show some (RV.fz (D.tup (List.replicate (k : Int).toNat (dints w)).flatten)) = some (RV.fz (.tup (dints (pw w k))))
    rw [← dints_rep]
    exact congrArg (fun n => some (RV.fz (D.tup (List.replicate n (dints w)).flatten))) (Int.toNat_natCast k)
  · have : k = 1 := by omega
    subst this
    rw [if_neg (by omega), if_pos ⟨.inr rfl, by decide, by decide⟩]
    simp [pw]
abbrev P_mul : FP := p2 DL.gMul (pSl (pName 0) oNone (oSome (pName 1))) (p2 gFdiv (pCa gLen (aCons (pName 0) aNil)) (pName 1))
theorem log_small {n : Nat} (h : n ≤ 1000) : n.log2 < 9000 := by
  by_cases z : n = 0
  · subst z; decide
  · exact Nat.lt_of_lt_of_le ((Nat.log2_lt z).mpr (show n < 2 ^ 10 by omega)) (by decide)
theorem mul_ok {c : List Int} {l : Nat} (h0 : 1 ≤ l) (h1 : l ≤ c.length) (hl : c.length ≤ 1000) {e : En} {i : Nat} (e0 : e[0]? = some (some (.d (tw c)))) (ei : e[i]? = some (some (.d (.int (l : Int))))) :
    p2 DL.gMul (pSl (pName 0) oNone (oSome (pName i))) (p2 gFdiv (pCa gLen (aCons (pName 0) aNil)) (pName i)) e = some (.fz (tw (pw (c.take l) (c.length / l)))) := by
  have n0 : pName 0 e = some (.fz (tw c)) := by unfold pName; rw [e0]
  have ni : pName i e = some (.fz (.int (l : Int))) := by unfold pName; rw [ei]
  have x1 : pSl (pName 0) oNone (oSome (pName i)) e = some (.fz (tw (c.take l))) := by
    unfold pSl oSome oNone
    rw [n0, ni]
    show some (RV.fz (.tup (DL.cutD (dints c) none (some (l : Int))))) = _
    rw [cut_to, ← dints_take]
  have x2 : p2 gFdiv (pCa gLen (aCons (pName 0) aNil)) (pName i) e = some (.fz (.int ((c.length / l : Nat) : Int))) := by
    refine (p2_ok (a := .fz (.int (c.length : Int))) ?_ ni).trans ?_
    · refine (pCa_ok (aCons_ok (rs := []) n0 rfl)).trans ?_
      show some (RV.fz (.int ((dints c).length : Nat))) = _
      rw [dints_length]
    · show (if (0 : Int) < (l : Int) ∧ ((l : Int)).natAbs.log2 < 9000 then some (RV.fz (.int ((c.length : Int) / (l : Int)))) else none) = _
      rw [if_pos ⟨by omega, log_small (by omega)⟩]
      rfl
  have hne : c.take l ≠ [] := fun z => by
    have := congrArg List.length z
    rw [List.length_take, List.length_nil] at this
    omega
  exact (p2_ok x1 x2).trans (gMul_tup hne (Nat.div_pos h1 h0) (by have := Nat.div_le_self c.length l; omega) (by rw [List.length_take]; omega))
theorem L4.per {c : List Int} (h : L4 c) (l n : Nat) : L4 (FG.pw (c.take l) n) := (h.take l).pw n
abbrev T_lp : FT := tVal (p2 gEq (pName 0) (p2 DL.gMul (pSl (pName 0) oNone (oSome (pName 1))) (p2 gFdiv (pCa gLen (aCons (pName 0) aNil)) (pName 1))))
abbrev B_lp : FS := sIf (tMT T_lp) (sRet (mPP (pName 1))) sNil
theorem tlp_ok {c : List Int} (hc : L4 c) {l : Nat} (h0 : 1 ≤ l) (h1 : l ≤ c.length) (hl : c.length ≤ 1000) : T_lp [some (.d (tw c)), some (.d (.int (l : Int)))] = some (perB c l) := by
  refine tVal_ok ((p2_ok (a := .fz (tw c)) rfl (mul_ok h0 h1 hl (i := 1) rfl rfl)).trans ?_)
  show gEq (tw c) (tw (pw (c.take l) (c.length / l))) = _
  rw [gEq_tw hc (hc.per l _)]
  rfl
theorem lp_loop {c : List Int} (hc : L4 c) (hn : c ≠ []) (hl : c.length ≤ 1000) : ∀ (k j : Nat) (t : Option S), 1 ≤ j → (∀ m, 1 ≤ m → m < j → ¬ FG.Per c m) → j + k = c.length + 1 → ∃ l, FG.IsLp c l ∧ forL (gNm 1) B_lp (rangeD (j : Int) k) [some (.d (tw c)), t] = .rt (.d (.int (l : Int))) [some (.d (tw c)), some (.d (.int (l : Int)))]
  | 0, j, t, hj, hno, e => absurd (FG.per_self hn) (hno c.length (List.length_pos_iff.mpr hn) (by omega))
  | k + 1, j, t, hj, hno, e => by
    have T := tlp_ok hc hj (by omega) hl
    by_cases q : FG.Per c j
    · refine ⟨j, ⟨q, fun m hm => ?_⟩, ?_⟩
      · by_cases z : m < j
        · exact absurd hm (hno m hm.1 z)
        · omega
      · rw [(perB_iff hj (by omega)).mpr q] at T
        rw [range_cons]
        unfold forL
        rw [show gNm 1 (.int (j : Int)) [some (.d (tw c)), t] = some [some (.d (tw c)), some (.d (.int (j : Int)))] from rfl]
        have : B_lp [some (.d (tw c)), some (.d (.int (j : Int)))] = .rt (.d (.int (j : Int))) [some (.d (tw c)), some (.d (.int (j : Int)))] := (if_t T).trans rfl
        simp only [this]
    · have qf : perB c j = false := by
        cases z : perB c j with
        | false => rfl
        | true => exact absurd ((perB_iff hj (by omega)).mp z) q
      rw [qf] at T
      obtain ⟨l, p, ih⟩ := lp_loop hc hn hl k (j + 1) (some (.d (.int (j : Int)))) (by omega) (fun m h1 h2 => by
        by_cases z : m = j
        · rw [z]; exact q
        · exact hno m h1 (by omega)) (by omega)
      refine ⟨l, p, ?_⟩
      rw [range_cons]
      unfold forL
      rw [show gNm 1 (.int (j : Int)) [some (.d (tw c)), t] = some [some (.d (tw c)), some (.d (.int (j : Int)))] from rfl]
      have : B_lp [some (.d (tw c)), some (.d (.int (j : Int)))] = .nx [some (.d (tw c)), some (.d (.int (j : Int)))] := (if_f T).trans rfl
      simp only [this]
      have e2 : (j : Int) + 1 = ((j + 1 : Nat) : Int) := by omega
      rw [e2]
      exact ih
theorem for_ok {fi : FI} {bind : FG} {fb : FS} {e : En} {ds : List D} {r : Fl} (h : fi e = some (ds, true)) (h2 : forL bind fb ds e = r) : sFor fi bind fb e = r := by
  unfold sFor
  rw [h]
  exact h2
theorem rgR2_ok {i j : Int} (h1 : i62 i = true) (h2 : i62 j = true) : rgR2 [.fz (.int i), .fz (.int j)] = some (rangeD i (j - i).toNat, true) := if_pos ⟨h1, h2⟩
theorem rgR1_ok {j : Int} (h : i62 j = true) : rgR1 [.fz (.int j)] = some (rangeD 0 j.toNat, true) := if_pos h
theorem i62_small {j : Int} (h : -1000000 ≤ j) (h2 : j ≤ 1000000) : i62 j = true := by
  unfold i62
  rw [decide_eq_true (by omega), decide_eq_true (by omega)]
  rfl
theorem par_fz {f g : FP} {e : En} {x y : D} {i j : Nat} (h1 : f e = some (.fz x)) (h2 : g e = some (.fz y)) (hi : i < e.length) (hj : j < e.length) : sPar i j (arFz (mPP f) (arFz (mPP g) arNil)) e = .nx ((e.set i (some (.d x))).set j (some (.d y))) := by
  unfold sPar arFz mPP
  simp only [h1, rvO, Out.arF, h2, arNil]
  exact if_pos ⟨Nat.zero_le 1, hi, hj⟩
theorem iRg_len {c : List Int} (hl : c.length ≤ 1000) {e : En} (e0 : e[0]? = some (some (.d (tw c)))) : iRg2 (aCons (pCon (.int 1)) (aCons (p2 DL.gAdd (pCa gLen (aCons (pName 0) aNil)) (pCon (.int 1))) aNil)) e = some (rangeD ((1 : Nat) : Int) c.length, true) := by
  have n0 : pName 0 e = some (.fz (tw c)) := by unfold pName; rw [e0]
  have x1 : pCa gLen (aCons (pName 0) aNil) e = some (.fz (.int (c.length : Int))) := by
    refine (pCa_ok (aCons_ok (rs := []) n0 rfl)).trans ?_
    show some (RV.fz (.int ((dints c).length : Nat))) = _
    rw [dints_length]
  have x2 : p2 DL.gAdd (pCa gLen (aCons (pName 0) aNil)) (pCon (.int 1)) e = some (.fz (.int ((c.length : Int) + 1))) := (p2_ok x1 (b := .fz (.int 1)) rfl).trans rfl
  have i2 : ((c.length : Int) + 1 - 1).toNat = c.length := by omega
  have h := rgR2_ok (i := 1) (j := (c.length : Int) + 1) (i62_small (by decide) (by decide)) (i62_small (by omega) (by omega))
  rw [i2] at h
  unfold iRg2
  rw [aCons_ok (r := .fz (.int 1)) rfl (aCons_ok (rs := []) x2 rfl), Option.bind_some]
  exact h
/-! ### root_of -/
theorem eq_empty {w : List Int} (hw : L4 w) (hn : w ≠ []) {e : En} {i : Nat} (e0 : e[i]? = some (some (.d (tw w)))) : tVal (p2 gEq (pName i) (pTup aNil)) e = some false := by
  have n0 : pName i e = some (.fz (tw w)) := by unfold pName; rw [e0]
  refine tVal_ok ((p2_ok n0 (b := .fz (.tup [])) rfl).trans ?_)
  have := gEq_tw (v := w) (w := []) hw L4.nil
  rw [decide_eq_false hn] at this
  exact this
theorem eq_empty' {e : En} {i : Nat} (e0 : e[i]? = some (some (.d (tw [])))) : tVal (p2 gEq (pName i) (pTup aNil)) e = some true := by
  have n0 : pName i e = some (.fz (tw [])) := by unfold pName; rw [e0]
  refine tVal_ok ((p2_ok n0 (b := .fz (.tup [])) rfl).trans ?_)
  have := gEq_tw (v := []) (w := []) L4.nil L4.nil
  rw [decide_eq_true rfl] at this
  exact this
theorem rt_L4 {w r : List Int} {n : Nat} (a : FG.Rt w r n) (hw : L4 w) : L4 r := by
  obtain ⟨h, c, l, k, _, rfl, _⟩ := a
  have hw : L4 (h ++ c ++ inv h) := by rw [← k.1]; exact hw
  exact (hw.l.l.app (hw.l.r.take l)).app hw.r
theorem rt_rlen {w r : List Int} {n : Nat} (a : FG.Rt w r n) : r.length ≤ w.length := by
  obtain ⟨h, c, l, k, p, rfl, _⟩ := a
  rw [k.1]
  have := p.1.2.1
  simp
  omega
/-! ### the law's rings -/
abbrev T_lr : FT := DL.tAnd (tVal (p2 gGt (pCa gLen (aCons (pName 2) aNil)) (pCon (.int 1)))) (tVal (p2 gEq (p2 gIx (pName 2) (pCon (.int 0))) (p2 DL.gSub (pCon (.int 0)) (p2 gIx (pName 2) (p1 gNeg (pCon (.int 1)))))))
abbrev B_lr : FS := sPar 1 2 (arFz (mPP (p2 DL.gAdd (pName 1) (pSl (pName 2) oNone (oSome (pCon (.int 1)))))) (arFz (mPP (pSl (pName 2) (oSome (pCon (.int 1))) (oSome (p1 gNeg (pCon (.int 1)))))) arNil))
theorem cut_in (a b : Int) (m : List Int) : DL.cutD (dints (a :: (m ++ [b]))) (some 1) (some (-1)) = dints m := by
  have l : (dints (a :: (m ++ [b]))).length = m.length + 2 := by rw [dints_length]; simp
  unfold DL.cutD
  rw [show HT.sIx (dints (a :: (m ++ [b]))).length 0 (some 1) = min 1 (dints (a :: (m ++ [b]))).length from HT.sIx_nat _ _ 1]
  rw [show HT.sIx (dints (a :: (m ++ [b]))).length (dints (a :: (m ++ [b]))).length (some (-1)) = ((-1 : Int) + ((dints (a :: (m ++ [b]))).length : Int)).toNat from rfl, l]
  rw [show min 1 (m.length + 2) = 1 by omega, show ((-1 : Int) + ((m.length + 2 : Nat) : Int)).toNat = m.length + 1 by omega, Nat.add_sub_cancel]
  show (dints (m ++ [b])).take m.length = _
  rw [← dints_take]
  simp
theorem lr_loop {w : List Int} (hw : L4 w) (hl : w.length ≤ 1000) (x : Option S) : ∀ (n : Nat) {h m : List Int}, m.length ≤ n → m ≠ [] → w = h ++ m ++ inv h → Red m → ∃ h' c, FG.Rg w h' c ∧ ∀ fu, n < fu → whileF (tMT T_lr) B_lr fu [x, some (.d (tw h)), some (.d (tw m))] = .nx [x, some (.d (tw h')), some (.d (tw c))]
  | 0, h, m, hn, hm, _, _ => absurd (List.length_eq_zero_iff.mp (by omega)) hm
  | n + 1, h, m, hn, hm, e, hr => by
    match m, hm, e, hr, hn with
    | [a], _, e, hr, hn =>
      have ha : a ≠ 0 := hw.z a (by rw [e]; simp)
      refine ⟨h, [a], ⟨e, FG.cyc_one ha⟩, fun fu hfu => ?_⟩
      obtain ⟨fu, rfl⟩ : ∃ k, fu = k + 1 := ⟨fu - 1, by omega⟩
      exact wh_f (tMT_ok rfl)
    | a :: d :: t, _, e, hr, hn =>
      obtain ⟨m, b, q⟩ : ∃ m b, d :: t = m ++ [b] := by
        rcases List.eq_nil_or_concat (d :: t) with q | ⟨m, b, q⟩
        · cases q
        · exact ⟨m, b, by rw [q, List.concat_eq_append]⟩
      rw [q] at e hr hn ⊢
      have hlen : w.length = h.length + (m.length + 2) + h.length := by rw [e]; simp [FG.inv_length]; omega
      have t1 : tVal (p2 gGt (pCa gLen (aCons (pName 2) aNil)) (pCon (.int 1))) [x, some (.d (tw h)), some (.d (tw (a :: (m ++ [b]))))] = some true := by
        show some (decide ((1 : Int) < ((dints (a :: (m ++ [b]))).length : Int))) = _
        rw [dints_length, decide_eq_true (by simp; omega)]
      have ha : Let 4 a := hw a (by rw [e]; simp)
      have hb : Let 4 b := hw b (by rw [e]; simp)
      have x2 : atI (dints (a :: (m ++ [b]))) (-1) = some (.int b) := last_int (a :: m) b
      have t2 : tVal (p2 gEq (p2 gIx (pName 2) (pCon (.int 0))) (p2 DL.gSub (pCon (.int 0)) (p2 gIx (pName 2) (p1 gNeg (pCon (.int 1)))))) [x, some (.d (tw h)), some (.d (tw (a :: (m ++ [b]))))] = some (decide (a = 0 - b)) := by
        have y1 : p2 gIx (pName 2) (pCon (.int 0)) [x, some (.d (tw h)), some (.d (tw (a :: (m ++ [b]))))] = some (.fz (.int a)) := by
          show (atI (dints (a :: (m ++ [b]))) 0).map RV.fz = _
          have := at_mid [] (m ++ [b]) a
          rw [List.nil_append] at this
          rw [show (0 : Int) = (([] : List Int).length : Int) from rfl, this]
          rfl
        have y2 : p2 gIx (pName 2) (p1 gNeg (pCon (.int 1))) [x, some (.d (tw h)), some (.d (tw (a :: (m ++ [b]))))] = some (.fz (.int b)) := by
          show (atI (dints (a :: (m ++ [b]))) (-1)).map RV.fz = _
          rw [x2]
          rfl
        have y3 : p2 DL.gSub (pCon (.int 0)) (p2 gIx (pName 2) (p1 gNeg (pCon (.int 1)))) [x, some (.d (tw h)), some (.d (tw (a :: (m ++ [b]))))] = some (.fz (.int (0 - b))) := (p2_ok (a := .fz (.int 0)) rfl y2).trans rfl
        exact tVal_ok ((p2_ok y1 y3).trans (gEq_int (by unfold Let at *; omega) (by unfold Let at *; omega)))
      have T : T_lr [x, some (.d (tw h)), some (.d (tw (a :: (m ++ [b]))))] = some (decide (a = 0 - b)) := by
        unfold T_lr DL.tAnd
        rw [t1]
        exact t2
      by_cases k : a = 0 - b
      · have k0 : a + b = 0 := by omega
        have hm : m ≠ [] := fun z => by subst z; exact hr.1 k0
        obtain ⟨h', c, g, ih⟩ := lr_loop hw hl x n (h := h ++ [a]) (m := m) (by simp at hn; omega) hm (by rw [e]; exact FG.rg_step k0) (FG.red_mid hr)
        refine ⟨h', c, g, fun fu hfu => ?_⟩
        obtain ⟨fu, rfl⟩ : ∃ k, fu = k + 1 := ⟨fu - 1, by omega⟩
        rw [decide_eq_true k] at T
        refine (wh_t (tMT_ok T) (e2 := [x, some (.d (tw (h ++ [a]))), some (.d (tw m))]) ?_).trans (ih fu (by omega))
        have y1 : pSl (pName 2) oNone (oSome (pCon (.int 1))) [x, some (.d (tw h)), some (.d (tw (a :: (m ++ [b]))))] = some (.fz (tw [a])) := by
          show some (RV.fz (.tup (DL.cutD (dints (a :: (m ++ [b]))) none (some ((1 : Nat) : Int))))) = _
          rw [cut_to]
          rfl
        have y2 : p2 DL.gAdd (pName 1) (pSl (pName 2) oNone (oSome (pCon (.int 1)))) [x, some (.d (tw h)), some (.d (tw (a :: (m ++ [b]))))] = some (.fz (tw (h ++ [a]))) := by
          refine (p2_ok (a := .fz (tw h)) rfl y1).trans ?_
          show (if (dints h).length + (dints [a]).length ≤ SZ then some (RV.fz (.tup (dints h ++ dints [a]))) else none) = _
          rw [if_pos (by rw [dints_length, dints_length]; unfold SZ; simp; omega), ← dints_append]
        have y3 : pSl (pName 2) (oSome (pCon (.int 1))) (oSome (p1 gNeg (pCon (.int 1)))) [x, some (.d (tw h)), some (.d (tw (a :: (m ++ [b]))))] = some (.fz (tw m)) := by
          show some (RV.fz (.tup (DL.cutD (dints (a :: (m ++ [b]))) (some 1) (some (-1))))) = _
          rw [cut_in]
        exact par_fz y2 y3 (by show 1 < 3; decide) (by show 2 < 3; decide)
      · refine ⟨h, a :: (m ++ [b]), ⟨e, FG.cyc_of hr (by omega)⟩, fun fu hfu => ?_⟩
        obtain ⟨fu, rfl⟩ : ∃ k, fu = k + 1 := ⟨fu - 1, by omega⟩
        rw [decide_eq_false k] at T
        exact wh_f (tMT_ok T)
abbrev T_pa : FT := tVal (p2 gEq (p2 DL.gMul (pSl (pName 0) oNone (oSome (pName 2))) (p2 gFdiv (pCa gLen (aCons (pName 0) aNil)) (pName 2))) (pName 0))
theorem tpa_ok {c : List Int} (hc : L4 c) {l : Nat} (h0 : 1 ≤ l) (h1 : l ≤ c.length) (hl : c.length ≤ 1000) (y : Option S) : T_pa [some (.d (tw c)), y, some (.d (.int (l : Int)))] = some (perB c l) := by
  refine tVal_ok ((p2_ok (b := .fz (tw c)) (mul_ok h0 h1 hl (i := 2) rfl rfl) rfl).trans ?_)
  show gEq (tw (pw (c.take l) (c.length / l))) (tw c) = _
  rw [gEq_tw (hc.per l _) hc]
  unfold perB
  congr 3
  rw [decide_eq_decide]
  exact ⟨Eq.symm, Eq.symm⟩
theorem pa_list {c : List Int} (hc : L4 c) (hl : c.length ≤ 1000) (y z : Option S) : ∀ (k j : Nat), 1 ≤ j → j + k = c.length + 1 → ∃ v : List Int, lcL (gNm 2) T_pa (pName 2) [some (.d (tw c)), y, z] (rangeD (j : Int) k) = some (dints v) ∧ v.length ≤ k ∧ ∀ l, FG.IsLp c l → j ≤ l → ∃ t, v = (l : Int) :: t
  | 0, j, hj, e => ⟨[], rfl, Nat.le_refl _, fun l p h => by have := p.1.2.1; omega⟩
  | k + 1, j, hj, e => by
    obtain ⟨v, ih, hv, hl2⟩ := pa_list hc hl y z k (j + 1) (by omega) (by omega)
    have T := tpa_ok hc hj (by omega) hl y
    have e2 : (j : Int) + 1 = ((j + 1 : Nat) : Int) := by omega
    rw [range_cons, e2]
    have step : lcL (gNm 2) T_pa (pName 2) [some (.d (tw c)), y, z] (.int (j : Int) :: rangeD ((j + 1 : Nat) : Int) k) = (T_pa [some (.d (tw c)), y, some (.d (.int (j : Int)))]).bind fun b => if b = true then (lcL (gNm 2) T_pa (pName 2) [some (.d (tw c)), y, z] (rangeD ((j + 1 : Nat) : Int) k)).map fun xs => D.int (j : Int) :: xs else lcL (gNm 2) T_pa (pName 2) [some (.d (tw c)), y, z] (rangeD ((j + 1 : Nat) : Int) k) := rfl
    rw [step, T, ih]
    cases q : perB c j with
    | true =>
      refine ⟨(j : Int) :: v, rfl, by rw [List.length_cons]; omega, fun l p h => ?_⟩
      have := p.2 j ((perB_iff hj (by omega)).mp q)
      have : l = j := by omega
      subst this
      exact ⟨v, rfl⟩
    | false =>
      refine ⟨v, rfl, by omega, fun l p h => hl2 l p ?_⟩
      have : l ≠ j := fun z => by
        subst z
        rw [(perB_iff hj (by omega)).mpr p.1] at q
        cases q
      omega
/-! from P14d -/
open PySem PySem.Spec PyProof.Rows L2 DL
open FG (Red red inv pw push stk)
/-! ### the law's reducing -/
theorem cut_from {α : Type} (xs : List α) (n : Nat) : DL.cutD xs (some (n : Int)) none = xs.drop n := by
  unfold DL.cutD
  rw [HT.sIx_nat, HT.sIx_none]
  by_cases h : n ≤ xs.length
  · rw [Nat.min_eq_left h, List.take_of_length_le (by rw [List.length_drop]; exact Nat.le_refl _)]
  · rw [Nat.min_eq_right (by omega), Nat.sub_self, List.take_zero, List.drop_of_length_le (by omega)]
abbrev T_sp : FT := tVal (p2 gEq (p2 gIx (pName 1) (pName 4)) (p2 DL.gSub (pCon (.int 0)) (p2 gIx (pName 1) (p2 DL.gAdd (pName 4) (pCon (.int 1))))))
theorem tsp_ok (x y z : Option S) {u v : List Int} {a b : Int} (hw : L4 (u ++ a :: b :: v)) : T_sp [x, some (.d (tw (u ++ a :: b :: v))), y, z, some (.d (.int (u.length : Int)))] = some (decide (a = 0 - b)) := by
  have ha := hw a (by simp)
  have hb := hw b (by simp)
  have y1 : p2 gIx (pName 1) (pName 4) [x, some (.d (tw (u ++ a :: b :: v))), y, z, some (.d (.int (u.length : Int)))] = some (.fz (.int a)) := by
    show (atI (dints (u ++ a :: b :: v)) (u.length : Int)).map RV.fz = _
    rw [at_mid]
    rfl
  have y2 : p2 gIx (pName 1) (p2 DL.gAdd (pName 4) (pCon (.int 1))) [x, some (.d (tw (u ++ a :: b :: v))), y, z, some (.d (.int (u.length : Int)))] = some (.fz (.int b)) := by
    show (atI (dints (u ++ a :: b :: v)) ((u.length : Int) + 1)).map RV.fz = _
    have := at_mid (u ++ [a]) v b
    rw [show (u ++ [a]) ++ b :: v = u ++ a :: b :: v by simp, show (((u ++ [a]).length : Nat) : Int) = (u.length : Int) + 1 by simp] at this
    rw [this]
    rfl
  have y3 : p2 DL.gSub (pCon (.int 0)) (p2 gIx (pName 1) (p2 DL.gAdd (pName 4) (pCon (.int 1)))) [x, some (.d (tw (u ++ a :: b :: v))), y, z, some (.d (.int (u.length : Int)))] = some (.fz (.int (0 - b))) := (p2_ok (a := .fz (.int 0)) rfl y2).trans rfl
  exact tVal_ok ((p2_ok y1 y3).trans (gEq_int (by unfold Let at *; omega) (by unfold Let at *; omega)))
theorem sp_list (x y z t : Option S) : ∀ (v u : List Int), L4 (u ++ v) → (u ++ v).length ≤ 1000 → ∃ L : List Int, lcL (gNm 4) T_sp (pName 4) [x, some (.d (tw (u ++ v))), y, z, t] (rangeD (u.length : Int) (v.length - 1)) = some (dints L) ∧ L.length ≤ v.length ∧ (∀ i ∈ L, i.natAbs < 2 ^ 64) ∧
    (L = [] → Red v) ∧ (∀ k s, L = k :: s → ∃ u' a b v', u ++ v = u' ++ a :: b :: v' ∧ k = (u'.length : Int) ∧ a + b = 0)
  | [], u, _, _ => ⟨[], rfl, Nat.le_refl _, (fun _ h => nomatch h), (fun _ => trivial), (fun _ _ h => nomatch h)⟩
  | [a], u, _, _ => ⟨[], rfl, Nat.zero_le _, (fun _ h => nomatch h), (fun _ => trivial), (fun _ _ h => nomatch h)⟩
  | a :: b :: v, u, hw, hl => by
    have e : u ++ a :: b :: v = (u ++ [a]) ++ b :: v := by simp
    obtain ⟨L, h1, h2, h3, h4, h5⟩ := sp_list x y z t (b :: v) (u ++ [a]) (by rw [← e]; exact hw) (by rw [← e]; exact hl)
    rw [← e] at h1 h5
    have T := tsp_ok x y z (u := u) (v := v) (a := a) (b := b) hw
    have e2 : (a :: b :: v).length - 1 = ((b :: v).length - 1) + 1 := by simp
    have e3 : (u.length : Int) + 1 = ((u ++ [a]).length : Int) := by simp
    rw [e2, range_cons, e3]
    have step : lcL (gNm 4) T_sp (pName 4) [x, some (.d (tw (u ++ a :: b :: v))), y, z, t] (.int (u.length : Int) :: rangeD ((u ++ [a]).length : Int) ((b :: v).length - 1)) = (T_sp [x, some (.d (tw (u ++ a :: b :: v))), y, z, some (.d (.int (u.length : Int)))]).bind fun q => if q = true then (lcL (gNm 4) T_sp (pName 4) [x, some (.d (tw (u ++ a :: b :: v))), y, z, t] (rangeD ((u ++ [a]).length : Int) ((b :: v).length - 1))).map fun xs => D.int (u.length : Int) :: xs else lcL (gNm 4) T_sp (pName 4) [x, some (.d (tw (u ++ a :: b :: v))), y, z, t] (rangeD ((u ++ [a]).length : Int) ((b :: v).length - 1)) := rfl
    rw [step, T, h1]
    by_cases k : a = 0 - b
    · rw [decide_eq_true k]
      refine ⟨(u.length : Int) :: L, rfl, ?_, ?_, (fun q => nomatch q), ?_⟩
      · rw [List.length_cons, List.length_cons]; omega
      · intro i hi
        rcases List.mem_cons.mp hi with q | q
        · subst q
          rw [List.length_append] at hl
          omega
        · exact h3 i q
      · intro k' s q
        injection q with q1 q2
        exact ⟨u, a, b, v, rfl, q1.symm, by omega⟩
    · rw [decide_eq_false k]
      exact ⟨L, rfl, by rw [List.length_cons]; omega, h3, fun q => ⟨by omega, h4 q⟩, h5⟩
abbrev T_lq : FT := tVal (pName 2)
abbrev P_cut : FP := p2 DL.gAdd (pSl (pName 1) oNone (oSome (p2 gIx (pName 3) (pCon (.int 0))))) (pSl (pName 1) (oSome (p2 DL.gAdd (p2 gIx (pName 3) (pCon (.int 0))) (pCon (.int 2)))) oNone)
abbrev B_lq : FS := sSeq (sSet 3 (mPP (pLc [4] (iRg1 (aCons (p2 DL.gSub (pCa gLen (aCons (pName 1) aNil)) (pCon (.int 1))) aNil)) (gNm 4) T_sp (pName 4)))) (sSeq (sSet 2 (mPP (p2 gNe (pName 3) (pLst aNil)))) (sSet 1 (mPP (pIf (tVal (pName 2)) P_cut (pName 1)))))
theorem lq_loop (x : Option S) : ∀ (n : Nat) {w : List Int} (z : Option S), w.length ≤ n → L4 w → w.length ≤ 1000 → ∃ z', ∀ fu, n + 1 < fu → whileF (tMT T_lq) B_lq fu [x, some (.d (tw w)), some (.d (.bl true)), z, none] = .nx [x, some (.d (tw (red w))), some (.d (.bl false)), z', none]
  | n, w, z, hn, hw, hl => by
    obtain ⟨L, h1, h2, h3, h4, h5⟩ := sp_list x (some (.d (.bl true))) z none w [] hw hl
    rw [List.nil_append] at h1 h5
    have rg : iRg1 (aCons (p2 DL.gSub (pCa gLen (aCons (pName 1) aNil)) (pCon (.int 1))) aNil) [x, some (.d (tw w)), some (.d (.bl true)), z, none] = some (rangeD ((([] : List Int).length : Nat) : Int) (w.length - 1), true) := by
      have x1 : pCa gLen (aCons (pName 1) aNil) [x, some (.d (tw w)), some (.d (.bl true)), z, none] = some (.fz (.int (w.length : Int))) := by
        show some (RV.fz (.int ((dints w).length : Nat))) = _
        rw [dints_length]
      have x2 : p2 DL.gSub (pCa gLen (aCons (pName 1) aNil)) (pCon (.int 1)) [x, some (.d (tw w)), some (.d (.bl true)), z, none] = some (.fz (.int ((w.length : Int) - 1))) := (p2_ok x1 (b := .fz (.int 1)) rfl).trans rfl
      have h := rgR1_ok (j := (w.length : Int) - 1) (i62_small (by omega) (by omega))
      rw [show ((w.length : Int) - 1).toNat = w.length - 1 by omega] at h
      unfold iRg1
      rw [aCons_ok (rs := []) x2 rfl, Option.bind_some]
      exact h
    have q1 : sSet 3 (mPP (pLc [4] (iRg1 (aCons (p2 DL.gSub (pCa gLen (aCons (pName 1) aNil)) (pCon (.int 1))) aNil)) (gNm 4) T_sp (pName 4))) [x, some (.d (tw w)), some (.d (.bl true)), z, none] = .nx [x, some (.d (tw w)), some (.d (.bl true)), some (.d (.lst (dints L))), none] :=
      set_fr (pLc_ok rg h1 (by rw [dints_length]; unfold SZ; omega)) (by show 3 < 5; decide)
    have ne : gNe (.lst (dints L)) (.lst []) = some (.fz (.bl (!decide (L = [])))) := by
      have := eqb_lstI L []
      rw [dints_nil] at this
      rw [gNe_nice (x := .lst (dints L)) (y := .lst []) (nice_dints h3) rfl (by show depL _ + 1 ≤ 64; rw [dep_dints]; decide) (by decide), this]
    have q2 : sSet 2 (mPP (p2 gNe (pName 3) (pLst aNil))) [x, some (.d (tw w)), some (.d (.bl true)), some (.d (.lst (dints L))), none] = .nx [x, some (.d (tw w)), some (.d (.bl (!decide (L = [])))), some (.d (.lst (dints L))), none] :=
      set_fz ((p2_ok (a := .fz (.lst (dints L))) (b := .fr []) rfl rfl).trans ne) (by show 2 < 5; decide)
    match L, h1, h2, h3, h4, h5, q1, q2 with
    | [], h1, h2, h3, h4, h5, q1, q2 =>
      have R := FG.red_self (h4 rfl)
      refine ⟨some (.d (.lst (dints []))), fun fu hfu => ?_⟩
      obtain ⟨fu, rfl⟩ : ∃ k, fu = k + 1 + 1 := ⟨fu - 2, by omega⟩
      have q3 : sSet 1 (mPP (pIf (tVal (pName 2)) P_cut (pName 1))) [x, some (.d (tw w)), some (.d (.bl (!decide (([] : List Int) = [])))), some (.d (.lst (dints []))), none] = .nx [x, some (.d (tw w)), some (.d (.bl false)), some (.d (.lst (dints []))), none] :=
        set_fz ((pIf_f rfl).trans rfl) (by show 1 < 5; decide)
      refine (wh_t (e1 := [x, some (.d (tw w)), some (.d (.bl true)), z, none]) (tMT_ok (ft := T_lq) rfl) ((seq_nx q1).trans ((seq_nx q2).trans q3))).trans ?_
      rw [R]
      exact wh_f (tMT_ok rfl)
    | k :: s, h1, h2, h3, h4, h5, q1, q2 =>
      obtain ⟨u', a, b, v', e1, e2, e3⟩ := h5 k s rfl
      subst e2
      have hl2 : w.length = u'.length + v'.length + 2 := by rw [e1]; simp; omega
      have hw2 : L4 (u' ++ v') := fun i hi => hw i (by
        rw [e1]
        rcases List.mem_append.mp hi with q | q
        · simp [q]
        · simp [q])
      have rr : red w = red (u' ++ v') := by rw [e1]; exact FG.red_out e3
      match n, hn with
      | 0, hn => exact absurd hn (by omega)
      | n + 1, hn =>
        obtain ⟨z', ih⟩ := lq_loop x n (w := u' ++ v') (some (.d (.lst (dints ((u'.length : Int) :: s))))) (by rw [List.length_append]; omega) hw2 (by rw [List.length_append]; omega)
        refine ⟨z', fun fu hfu => ?_⟩
        obtain ⟨fu, rfl⟩ : ∃ k, fu = k + 1 := ⟨fu - 1, by omega⟩
        have ix : p2 gIx (pName 3) (pCon (.int 0)) [x, some (.d (tw w)), some (.d (.bl true)), some (.d (.lst (dints ((u'.length : Int) :: s)))), none] = some (.fz (.int (u'.length : Int))) := by
          show (atI (dints ((u'.length : Int) :: s)) 0).map RV.fz = _
          have := at_mid [] s (u'.length : Int)
          rw [List.nil_append] at this
          rw [show (0 : Int) = (([] : List Int).length : Int) from rfl, this]
          rfl
        have c1 : pSl (pName 1) oNone (oSome (p2 gIx (pName 3) (pCon (.int 0)))) [x, some (.d (tw w)), some (.d (.bl true)), some (.d (.lst (dints ((u'.length : Int) :: s)))), none] = some (.fz (tw u')) := by
          unfold pSl oSome
          rw [ix]
          show some (RV.fz (.tup (DL.cutD (dints w) none (some (u'.length : Int))))) = _
          rw [cut_to, ← dints_take, e1]
          simp
        have c2 : pSl (pName 1) (oSome (p2 DL.gAdd (p2 gIx (pName 3) (pCon (.int 0))) (pCon (.int 2)))) oNone [x, some (.d (tw w)), some (.d (.bl true)), some (.d (.lst (dints ((u'.length : Int) :: s)))), none] = some (.fz (tw v')) := by
          have i2 : p2 DL.gAdd (p2 gIx (pName 3) (pCon (.int 0))) (pCon (.int 2)) [x, some (.d (tw w)), some (.d (.bl true)), some (.d (.lst (dints ((u'.length : Int) :: s)))), none] = some (.fz (.int (((u'.length + 2 : Nat)) : Int))) := (p2_ok ix (b := .fz (.int 2)) rfl).trans (by
            show some (RV.fz (.int ((u'.length : Int) + 2))) = _
            congr 3)
          unfold pSl oSome
          rw [i2]
          show some (RV.fz (.tup (DL.cutD (dints w) (some ((u'.length + 2 : Nat) : Int)) none))) = _
          rw [cut_from, ← dints_drop, e1]
          have : (u' ++ a :: b :: v').drop (u'.length + 2) = v' := by
            rw [← List.drop_drop, List.drop_left]
            rfl
          rw [this]
        have c3 : P_cut [x, some (.d (tw w)), some (.d (.bl true)), some (.d (.lst (dints ((u'.length : Int) :: s)))), none] = some (.fz (tw (u' ++ v'))) := by
          refine (p2_ok c1 c2).trans ?_
          show (if (dints u').length + (dints v').length ≤ SZ then some (RV.fz (.tup (dints u' ++ dints v'))) else none) = _
          rw [if_pos (by rw [dints_length, dints_length]; unfold SZ; omega), ← dints_append]
        have dt : (!decide (((u'.length : Int) :: s) = [])) = true := by simp
        rw [dt] at q2
        have q3 : sSet 1 (mPP (pIf (tVal (pName 2)) P_cut (pName 1))) [x, some (.d (tw w)), some (.d (.bl true)), some (.d (.lst (dints ((u'.length : Int) :: s)))), none] = .nx [x, some (.d (tw (u' ++ v'))), some (.d (.bl true)), some (.d (.lst (dints ((u'.length : Int) :: s)))), none] :=
          set_fz ((pIf_t rfl).trans c3) (by show 1 < 5; decide)
        refine (wh_t (e1 := [x, some (.d (tw w)), some (.d (.bl true)), z, none]) (tMT_ok (ft := T_lq) rfl) ((seq_nx q1).trans ((seq_nx q2).trans q3))).trans ?_
        rw [rr]
        exact ih fu (by omega)
/-! ### the law's products -/
abbrev B_pr : FS := sSet 1 (mPP (pFd F__law_reduced (aCons (p2 DL.gAdd (pName 1) (pCa gTuple (aCons (pName 2) aNil))) aNil)))
/-! ### exponents -/
def optI : Option Int → D
  | none => .non
  | some i => .int i
theorem in_two (n : Bool) {r s t : List Int} (hr : L4 r) (hs : L4 s) (ht : L4 t) : gInW n (tw r) (.tup [tw s, tw t]) = some (.fz (.bl (if n = true then !(decide (s = r) || decide (t = r)) else (decide (s = r) || decide (t = r))))) := by
  have n2 : (D.tup [tw s, tw t]).nice = true := by
    show ((tw s).nice && ((tw t).nice && true)) = true
    rw [nice_tw hs, nice_tw ht]
    rfl
  have d2 : (D.tup [tw s, tw t]).dep ≤ 64 := by
    show max (depL (dints s) + 1) (max (depL (dints t) + 1) 0) + 1 ≤ 64
    rw [dep_dints, dep_dints]
    decide
  have b : inb (tw r) [tw s, tw t] = (decide (s = r) || decide (t = r)) := by
    show (eqb (tw s) (tw r) || (eqb (tw t) (tw r) || false)) = _
    rw [eqb_tupI, eqb_tupI, Bool.or_false]
  show (if eqok (tw r) = true ∧ eqok (.tup [tw s, tw t]) = true then some (RV.fz (.bl (if n = true then !inb (tw r) [tw s, tw t] else inb (tw r) [tw s, tw t]))) else none) = _
  rw [if_pos ⟨eqok_nice (nice_tw hr) (dep_tw r), eqok_nice n2 d2⟩, b]
theorem xr_zero (r s : List Int) (k : Nat) : FG.xr r s k 0 = none := if_pos (.inl rfl)
/-! ### the law's exponents -/

/-! from P14e -/
open PySem PySem.Spec PyProof.Rows L2 DL
open FG (Red red inv pw push stk)
/-! ### functions from outside -/
theorem fn_rt {n : Nat} {lk : List Nat} {B : FS} {ss : List S} {s : S} {e e' : En} (q : B (enter n ss) = .rt s e) (hl : lkOk lk 0 ss = true) (ho : outs ss e = some e') : fnF n lk B ss = .ok s e' := by
  unfold fnF
  rw [if_pos hl, q]
  show Out.back ss s e = _
  unfold Out.back
  rw [ho]
theorem fn_nx {n : Nat} {lk : List Nat} {B : FS} {ss : List S} {e e' : En} (q : B (enter n ss) = .nx e) (hl : lkOk lk 0 ss = true) (ho : outs ss e = some e') : fnF n lk B ss = .ok (.d .non) e' := by
  unfold fnF
  rw [if_pos hl, q]
  show Out.back ss (.d .non) e = _
  unfold Out.back
  rw [ho]
def pr (r : List Int) (n : Nat) : D := .tup [tw r, .int (n : Int)]
theorem nice_pr {r : List Int} {n : Nat} (h : L4 r) (hn : n ≤ 10000) : (pr r n).nice = true := by
  show ((tw r).nice && ((D.int (n : Int)).nice && true)) = true
  rw [nice_tw h, nice_int (by omega)]
  rfl
theorem dep_pr (r : List Int) (n : Nat) : (pr r n).dep = 2 := by
  show max (depL (dints r) + 1) (max 0 0) + 1 = 2
  rw [dep_dints]
  rfl
theorem size_pr (r : List Int) (n : Nat) : (pr r n).size = r.length + 2 := by
  show sizeL (dints r) + 1 + (0 + 1 + 0) = _
  rw [size_dints]
theorem gEq_pr {r s : List Int} {n m : Nat} (hr : L4 r) (hs : L4 s) (hn : n ≤ 10000) (hm : m ≤ 10000) : gEq (pr r n) (pr s m) = some (.fz (.bl (decide (r = s) && decide (n = m)))) := by
  rw [gEq_nice (nice_pr hr hn) (nice_pr hs hm) (by rw [dep_pr]; decide) (by rw [dep_pr]; decide)]
  have : eqb (pr r n) (pr s m) = (decide (r = s) && decide (n = m)) := by
    show (eqb (tw r) (tw s) && (eqb (.int (n : Int)) (.int (m : Int)) && true)) = _
    rw [eqb_tupI, eqb_int, Bool.and_true]
    congr 1
    rw [decide_eq_decide]
    omega
  rw [this]
theorem gNe_pr {r s : List Int} {n m : Nat} (hr : L4 r) (hs : L4 s) (hn : n ≤ 10000) (hm : m ≤ 10000) : gNe (pr r n) (pr s m) = some (.fz (.bl (!(decide (r = s) && decide (n = m))))) := by
  have h := gEq_pr hr hs hn hm
  rw [gEq_nice (nice_pr hr hn) (nice_pr hs hm) (by rw [dep_pr]; decide) (by rw [dep_pr]; decide)] at h
  rw [gNe_nice (nice_pr hr hn) (nice_pr hs hm) (by rw [dep_pr]; decide) (by rw [dep_pr]; decide)]
  injection h with h
  injection h with h
  injection h with h
  rw [h]
/-- two told alike -/
theorem repr_two {x1 x2 : FP} {e : En} {x : D} (n : x.nice = true) (d : x.dep ≤ 50) (s : x.size ≤ 3000) (h1 : x1 e = some (.fz x)) (h2 : x2 e = some (.fz x)) : pCa gRepr (aCons (pLst (aCons x1 (aCons x2 aNil))) aNil) e = some (.fz (.str (D.lst [x, x]).py.shown)) := by
  have q : pLst (aCons x1 (aCons x2 aNil)) e = some (.fr [x, x]) := by
    unfold pLst
    rw [aCons_ok h1 (aCons_ok (rs := []) h2 rfl)]
    rfl
  refine (pCa_ok (aCons_ok (rs := []) q rfl)).trans ?_
  refine repr_lst (xs := [x, x]) ?_ ?_ ?_
  · show (x.nice && (x.nice && true)) = true
    rw [n]
    rfl
  · show max x.dep (max x.dep 0) ≤ 60
    omega
  · show x.size + 1 + (x.size + 1 + 0) ≤ 8000
    omega
theorem nice_two {x : D} (n : x.nice = true) : (D.lst [x, x]).nice = true := by
  show (x.nice && (x.nice && true)) = true
  rw [n]
  rfl
theorem shown_eq_same {x : D} (h : x.nice = true) : gEq (.str x.py.shown) (.str x.py.shown) = some (.fz (.bl true)) := by
  have n := (good_shown x h).nice
  rw [gEq_nice n n (Nat.zero_le _) (Nat.zero_le _), eqb_refl n]
theorem pFdK_ok {F : List S → Out} {g : {α : Type} → List α → List α → List α} {n : Nat} {fs fk : FA} {e : En} {rs qs us : List RV} (h : fs e = some rs) (h2 : fk e = some qs) (h3 : g rs qs = us) (h4 : us.length = n) : pFdK F g n fs fk e = callP F us := by
  unfold pFdK
  rw [h, Option.bind_some, h2, Option.bind_some]
  show (if (g rs qs).length = n then callP F (g rs qs) else none) = _
  rw [h3, if_pos h4]
/-- a word of rank r -/
def Wd (r : Int) (w : List Int) : Prop := GW r w ∧ w.length ≤ 60
theorem Wd.l4 {r : Int} {w : List Int} (h2 : r ≤ 4) (h : Wd r w) : L4 w := gw4 h2 h.1
theorem Wd.red {r : Int} {w : List Int} (h : Wd r w) : Red w := h.1.1
theorem wd_nil (r : Int) : Wd r [] := ⟨⟨trivial, fun _ h => nomatch h⟩, Nat.zero_le _⟩
theorem gw_inv {r : Int} {w : List Int} (h : GW r w) : GW r (inv w) := ⟨FG.red_inv h.1, fun i hi => by
  have := h.2 _ (FG.mem_inv.mp hi)
  unfold Let at *
  omega⟩
theorem gw_red {r : Int} {w : List Int} (h : ∀ i ∈ w, Let r i) : GW r (red w) := ⟨FG.red_red w, fun i hi => h i (FG.mem_red hi)⟩
theorem rt_mem {w b : List Int} {n : Nat} (a : FG.Rt w b n) : ∀ i ∈ b, i ∈ w := by
  obtain ⟨h, c, l, k, _, rfl, _⟩ := a
  intro i hi
  rw [k.1]
  rcases List.mem_append.mp hi with q | q
  · rcases List.mem_append.mp q with q | q
    · simp [q]
    · simp [List.mem_of_mem_take q]
  · simp [q]
theorem rt_wd {r : Int} {w b : List Int} {n : Nat} (a : FG.Rt w b n) (h : Wd r w) : Wd r b := ⟨⟨(FG.rt_root a h.red).1, fun i hi => h.1.2 i (rt_mem a i hi)⟩, Nat.le_trans (rt_rlen a) h.2⟩
section
variable {r : Int} (h1 : 1 ≤ r) (h2 : r ≤ 4)
include h1 h2
end

/-! from P14f -/
open PySem PySem.Spec PyProof.Rows L2 DL
open FG (Red red inv pw push stk)
/-! ### products of two -/
theorem fl2 (u v : List Int) : [u, v].flatten = u ++ v := by simp
theorem put2_ok {u v : List Int} (hu : L4 u) (hv : L4 v) (hl : u.length + v.length ≤ 1000) : F_put_together [.d (.lst [tw u, tw v])] = .ok (.d (tw (red (u ++ v)))) [some (.d (.lst [tw u, tw v]))] := by
  have y := put_together_ok (ws := [u, v]) (by rw [fl2]; exact hu.app hv) (by rw [fl2, List.length_append]; omega)
  rw [fl2] at y
  exact y
/-- whether two words may be exchanged -/
def cm (u v : List Int) : Bool := decide (red (u ++ v) = red (v ++ u))
theorem cm_comm (u v : List Int) : cm u v = cm v u := by
  unfold cm
  rw [decide_eq_decide]
  exact ⟨Eq.symm, Eq.symm⟩
section
variable {r : Int} (h1 : 1 ≤ r) (h2 : r ≤ 4)
include h1 h2
end
/-! ### which of a word and its undoing stands ahead -/
def lp (l : Int) : Int := if 0 < l then 2 * l - 2 else 0 - 2 * l - 1
/-- what words are compared by -/
def kD (w : List Int) : D := .tup [.int (w.length : Int), .lst (dints (w.map lp))]
theorem pyL_ints : ∀ v : List Int, pyL (dints v) = v.map PyData.int
  | [] => rfl
  | i :: v => by
    show PyData.int i :: pyL (dints v) = _
    rw [pyL_ints v]
    rfl
theorem kD_py (w : List Int) : (kD w).py = PySem.W.Datum.toD ((w.length : Int), w.map lp) := by
  show PyData.tuple [PyData.int (w.length : Int), PyData.list (pyL (dints (w.map lp)))] = _
  rw [pyL_ints]
  rfl
theorem kD_lt (v w : List Int) (h : v.length = w.length) : PySem.W.dataLt (kD v).py (kD w).py = PySem.W.listLt (v.map lp) (w.map lp) := by
  rw [kD_py, kD_py, PySem.W.DatumOrd.lt_eq]
  show (if ((v.length : Int)) = (w.length : Int) then _ else _) = _
  rw [if_pos (by omega)]
  rfl
theorem alike_ints : ∀ v w : List Int, PySem.W.alikeAll (v.map PyData.int) (w.map PyData.int) = true := fun v w => PySem.W.alikeAll_map v w
theorem kD_alike (v w : List Int) : PySem.W.alike (kD v).py (kD w).py = true := by
  rw [kD_py, kD_py]
  exact PySem.W.DatumOrd.alike _ _
theorem lp_small {l : Int} (h : Let 4 l) : -20 ≤ lp l ∧ lp l ≤ 20 := by
  unfold lp Let at *
  split <;> omega
theorem kD_nice {w : List Int} (h : L4 w) (hl : w.length ≤ 1000) : (kD w).nice = true := by
  show ((D.int (w.length : Int)).nice && (niceL (dints (w.map lp)) && true)) = true
  rw [nice_int (by omega), nice_dints fun i hi => by
    obtain ⟨l, hm, rfl⟩ := List.mem_map.mp hi
    have := lp_small (h l hm)
    omega]
  rfl
theorem kD_dep (w : List Int) : (kD w).dep = 2 := by
  show max 0 (max (depL (dints (w.map lp)) + 1) 0) + 1 = 2
  rw [dep_dints]
  rfl
theorem kD_ok {v w : List Int} (hv : L4 v) (hw : L4 w) (vl : v.length ≤ 1000) (wl : w.length ≤ 1000) : okK (kD v) (kD w) = true := by
  have d1 : (kD v).py.depth ≤ 64 := by rw [D.py_depth _ (kD_nice hv vl), kD_dep]; decide
  have d2 : (kD w).py.depth ≤ 64 := by rw [D.py_depth _ (kD_nice hw wl), kD_dep]; decide
  unfold okK
  rw [D.nice_okp _ (kD_nice hv vl), D.nice_okp _ (kD_nice hw wl), decide_eq_true d1, decide_eq_true d2, kD_alike, kD_alike, kD_alike, kD_alike]
  rfl
/-- of a word and its undoing the one that stands ahead -/
def ahd (b : List Int) : List Int := if PySem.W.listLt ((inv b).map lp) (b.map lp) = true then inv b else b
theorem ahd_or (b : List Int) : ahd b = b ∨ ahd b = inv b := by
  unfold ahd
  split
  · exact .inr rfl
  · exact .inl rfl
theorem first_diff : ∀ {v w : List Int}, v.length = w.length → v ≠ w → ∃ q x u y z, v = q ++ x :: u ∧ w = q ++ y :: z ∧ x ≠ y
  | [], [], _, n => absurd rfl n
  | [], _ :: _, h, _ => by simp at h
  | _ :: _, [], h, _ => by simp at h
  | a :: v, b :: w, h, n => by
    by_cases k : a = b
    · subst k
      obtain ⟨q, x, u, y, z, e1, e2, e3⟩ := first_diff (v := v) (w := w) (by simpa using h) (fun e => n (by rw [e]))
      exact ⟨a :: q, x, u, y, z, by rw [e1]; rfl, by rw [e2]; rfl, e3⟩
    · exact ⟨[], a, v, b, w, rfl, rfl, k⟩
theorem lt_diff {x y : Int} (hne : lp x ≠ lp y) (u z : List Int) : ∀ q : List Int, PySem.W.listLt ((q ++ x :: u).map lp) ((q ++ y :: z).map lp) = decide (lp x < lp y)
  | [] => by
    show (if lp x = lp y then _ else PySem.W.DatumOrd.lt (lp x) (lp y)) = _
    rw [if_neg hne]
    rfl
  | a :: q => by
    show (if lp a = lp a then PySem.W.listLt ((q ++ x :: u).map lp) ((q ++ y :: z).map lp) else _) = _
    rw [if_pos rfl]
    exact lt_diff hne u z q
theorem lp_ne {x y : Int} (hx : Let 4 x) (hy : Let 4 y) (h : x ≠ y) : lp x ≠ lp y := by
  unfold lp Let at *
  split <;> split <;> omega
theorem ahd_inv {b : List Int} (h : L4 b) : ahd (inv b) = ahd b := by
  by_cases e : b = inv b
  · rw [← e]
  · obtain ⟨q, x, u, y, z, e1, e2, e3⟩ := first_diff (by rw [FG.inv_length]) e
    have hx := h x (by rw [e1]; simp)
    have hy := h.inv y (by rw [e2]; simp)
    have n := lp_ne hx hy e3
    unfold ahd
    rw [FG.inv_inv]
    have l1 : PySem.W.listLt (b.map lp) ((inv b).map lp) = decide (lp x < lp y) := by rw [e2, e1]; exact lt_diff n u z q
    have l2 : PySem.W.listLt ((inv b).map lp) (b.map lp) = decide (lp y < lp x) := by rw [e2, e1]; exact lt_diff n.symm z u q
    rw [l1, l2]
    by_cases c : lp x < lp y
    · rw [decide_eq_true c, decide_eq_false (by omega)]
      rfl
    · rw [decide_eq_false c, decide_eq_true (by omega)]
      rfl
theorem ahd_ahd {b : List Int} (h : L4 b) {c : List Int} (hc : c = ahd b ∨ c = inv (ahd b)) : ahd c = ahd b := by
  rcases ahd_or b with e | e
  · rw [e] at hc
    rcases hc with rfl | rfl
    · rfl
    · exact ahd_inv h
  · rw [e, FG.inv_inv] at hc
    rcases hc with rfl | rfl
    · exact ahd_inv h
    · rfl
/-! ### the law's own -/
abbrev T_ah : FT := tVal (p2 gNe (p2 gIx (pName 0) (pName 5)) (p2 gIx (pName 1) (pName 5)))
theorem ah_list (x2 x3 x4 x5 : Option S) : ∀ (v w p p' : List Int), L4 v → L4 w → p.length = p'.length → v.length = w.length → p.length + v.length ≤ 1000 → ∃ L : List Int, lcL (gNm 5) T_ah (pName 5) [some (.d (tw (p ++ v))), some (.d (tw (p' ++ w))), x2, x3, x4, x5] (rangeD (p.length : Int) v.length) = some (dints L) ∧ L.length ≤ v.length ∧
    (v ≠ w → ∃ q x u y z s, v = q ++ x :: u ∧ w = q ++ y :: z ∧ x ≠ y ∧ L = ((p.length + q.length : Nat) : Int) :: s)
  | [], [], p, p', _, _, _, _, _ => ⟨[], rfl, Nat.le_refl _, fun n => absurd rfl n⟩
  | [], _ :: _, p, p', _, _, _, h, _ => by simp at h
  | _ :: _, [], p, p', _, _, _, h, _ => by simp at h
  | a :: v, b :: w, p, p', hv, hw, hp, hl, hz => by
    have e1 : p ++ a :: v = (p ++ [a]) ++ v := by simp
    have e2 : p' ++ b :: w = (p' ++ [b]) ++ w := by simp
    obtain ⟨L, k1, k2, k3⟩ := ah_list x2 x3 x4 x5 v w (p ++ [a]) (p' ++ [b]) (fun i hi => hv i (List.mem_cons_of_mem _ hi)) (fun i hi => hw i (List.mem_cons_of_mem _ hi)) (by simp [hp]) (by simpa using hl) (by rw [List.length_cons] at hz; rw [List.length_append, List.length_singleton]; omega)
    rw [← e1, ← e2] at k1
    have ha := hv a List.mem_cons_self
    have hb := hw b List.mem_cons_self
    have T : T_ah [some (.d (tw (p ++ a :: v))), some (.d (tw (p' ++ b :: w))), x2, x3, x4, some (.d (.int (p.length : Int)))] = some (!decide (a = b)) := by
      have y1 : p2 gIx (pName 0) (pName 5) [some (.d (tw (p ++ a :: v))), some (.d (tw (p' ++ b :: w))), x2, x3, x4, some (.d (.int (p.length : Int)))] = some (.fz (.int a)) := by
        show (atI (dints (p ++ a :: v)) (p.length : Int)).map RV.fz = _
        rw [at_mid]
        rfl
      have y2 : p2 gIx (pName 1) (pName 5) [some (.d (tw (p ++ a :: v))), some (.d (tw (p' ++ b :: w))), x2, x3, x4, some (.d (.int (p.length : Int)))] = some (.fz (.int b)) := by
        show (atI (dints (p' ++ b :: w)) (p.length : Int)).map RV.fz = _
        rw [hp, at_mid]
        rfl
      exact tVal_ok ((p2_ok y1 y2).trans (gNe_int (by unfold Let at *; omega) (by unfold Let at *; omega)))
    have ec : ((p ++ [a]).length : Int) = (p.length : Int) + 1 := by simp
    rw [ec] at k1
    rw [show (a :: v).length = v.length + 1 from rfl, range_cons]
    have step : lcL (gNm 5) T_ah (pName 5) [some (.d (tw (p ++ a :: v))), some (.d (tw (p' ++ b :: w))), x2, x3, x4, x5] (.int (p.length : Int) :: rangeD ((p.length : Int) + 1) v.length) = (T_ah [some (.d (tw (p ++ a :: v))), some (.d (tw (p' ++ b :: w))), x2, x3, x4, some (.d (.int (p.length : Int)))]).bind fun q => if q = true then (lcL (gNm 5) T_ah (pName 5) [some (.d (tw (p ++ a :: v))), some (.d (tw (p' ++ b :: w))), x2, x3, x4, x5] (rangeD ((p.length : Int) + 1) v.length)).map fun xs => D.int (p.length : Int) :: xs else lcL (gNm 5) T_ah (pName 5) [some (.d (tw (p ++ a :: v))), some (.d (tw (p' ++ b :: w))), x2, x3, x4, x5] (rangeD ((p.length : Int) + 1) v.length) := rfl
    rw [step, T, k1]
    by_cases c : a = b
    · rw [decide_eq_true c]
      refine ⟨L, rfl, by omega, fun n => ?_⟩
      obtain ⟨q, x, u, y, z, s, g1, g2, g3, g4⟩ := k3 (fun e => n (by rw [c, e]))
      refine ⟨a :: q, x, u, y, z, s, by rw [g1]; rfl, by rw [g2, c]; rfl, g3, ?_⟩
      rw [g4, List.length_append, List.length_singleton, List.length_cons]
      congr 2
      omega
    · rw [decide_eq_false c]
      refine ⟨(p.length : Int) :: L, rfl, by rw [List.length_cons]; omega, fun _ => ⟨[], a, v, b, w, L, rfl, rfl, c, by simp⟩⟩
theorem ltD_ok (a b : Int) (p q : Bool) (ha : a.natAbs < 2 ^ 60) (hb : b.natAbs < 2 ^ 60) : gLtD (.tup [.int a, .bl p]) (.tup [.int b, .bl q]) = some (.fz (.bl (if a = b then (!p && q) else decide (a < b)))) := by
  have n1 : (D.tup [.int a, .bl p]).nice = true := by
    show ((D.int a).nice && (true && true)) = true
    rw [nice_int (by omega)]
    rfl
  have n2 : (D.tup [.int b, .bl q]).nice = true := by
    show ((D.int b).nice && (true && true)) = true
    rw [nice_int (by omega)]
    rfl
  have p1 : (D.tup [.int a, .bl p]).py = PySem.W.Datum.toD (a, p) := rfl
  have p2' : (D.tup [.int b, .bl q]).py = PySem.W.Datum.toD (b, q) := rfl
  have dl : PySem.W.dataLt (D.tup [.int a, .bl p]).py (D.tup [.int b, .bl q]).py = (if a = b then (!p && q) else decide (a < b)) := by
    rw [p1, p2', PySem.W.DatumOrd.lt_eq]
    rfl
  have al : PySem.W.alike (D.tup [.int a, .bl p]).py (D.tup [.int b, .bl q]).py = true := by
    rw [p1, p2']
    exact PySem.W.DatumOrd.alike _ _
  unfold gLtD
  rw [if_pos ⟨D.nice_okp _ n1, D.nice_okp _ n2, al, rfl, by
    rw [D.py_depth _ n1, D.py_depth _ n2]
    show min 1 1 ≤ 64
    decide⟩, dl]
theorem lp_abs {x y : Int} (hx : Let 4 x) (hy : Let 4 y) : (if (if x < 0 then -x else x) = (if y < 0 then -y else y) then (!decide (x < 0) && decide (y < 0)) else decide ((if x < 0 then -x else x) < (if y < 0 then -y else y))) = decide (lp x < lp y) := by
  have cx : x = 1 ∨ x = 2 ∨ x = 3 ∨ x = 4 ∨ x = -1 ∨ x = -2 ∨ x = -3 ∨ x = -4 := by unfold Let at hx; omega
  have cy : y = 1 ∨ y = 2 ∨ y = 3 ∨ y = 4 ∨ y = -1 ∨ y = -2 ∨ y = -3 ∨ y = -4 := by unfold Let at hy; omega
  rcases cx with rfl | rfl | rfl | rfl | rfl | rfl | rfl | rfl <;> rcases cy with rfl | rfl | rfl | rfl | rfl | rfl | rfl | rfl <;> rfl

/-! from P14g -/
open PySem PySem.Spec PyProof.Rows L2 DL
open FG (Red red inv pw push stk ledr Rot rotB Rgo)
/-! # Words led -/
theorem fl3 (a b c : List Int) : [a, b, c].flatten = a ++ b ++ c := by simp
theorem put3_ok {a b c : List Int} (ha : L4 a) (hb : L4 b) (hc : L4 c) (hl : a.length + b.length + c.length ≤ 1000) : F_put_together [.d (.lst [tw a, tw b, tw c])] = .ok (.d (tw (red (a ++ b ++ c)))) [some (.d (.lst [tw a, tw b, tw c]))] := by
  have h := put_together_ok (ws := [a, b, c]) (by rw [fl3]; exact (ha.app hb).app hc) (by rw [fl3, List.length_append, List.length_append]; omega)
  rw [fl3] at h
  exact h
theorem lst3_ok {f g h : FP} {e : En} {x y z : D} (h1 : f e = some (.fz x)) (h2 : g e = some (.fz y)) (h3 : h e = some (.fz z)) : pLst (aCons f (aCons g (aCons h aNil))) e = some (.fr [x, y, z]) := by
  unfold pLst
  rw [aCons_ok h1 (aCons_ok h2 (aCons_ok (rs := []) h3 rfl))]
  rfl
theorem lst2_ok {f g : FP} {e : En} {x y : D} (h1 : f e = some (.fz x)) (h2 : g e = some (.fz y)) : pLst (aCons f (aCons g aNil)) e = some (.fr [x, y]) := by
  unfold pLst
  rw [aCons_ok h1 (aCons_ok (rs := []) h2 rfl)]
  rfl
theorem tup2_ok {f g : FP} {e : En} {x y : D} (h1 : f e = some (.fz x)) (h2 : g e = some (.fz y)) : pTup (aCons f (aCons g aNil)) e = some (.fz (.tup [x, y])) := by
  unfold pTup
  rw [aCons_ok h1 (aCons_ok (rs := []) h2 rfl)]
  rfl
theorem L4.ledr {w g : List Int} (hw : L4 w) (hg : L4 g) : L4 (ledr w g) := ((hg.inv.app hw).app hg).red
theorem ledr_len (w g : List Int) : (ledr w g).length ≤ w.length + 2 * g.length := by
  have := FG.red_len (inv g ++ w ++ g)
  simp only [List.length_append, FG.inv_length] at this
  show (red (inv g ++ w ++ g)).length ≤ _
  omega
/-! ### rings, the empty word, too -/
theorem rgo_mem {w h c : List Int} (R : Rgo w h c) : (∀ i ∈ h, i ∈ w) ∧ ∀ i ∈ c, i ∈ w := by
  rw [R.eq]
  exact ⟨fun i hi => by simp [hi], fun i hi => by simp [hi]⟩
theorem rgo_len {w h c : List Int} (R : Rgo w h c) : w.length = 2 * h.length + c.length := by
  have := congrArg List.length R.eq
  simp only [List.length_append, FG.inv_length] at this
  omega
def trn (c : List Int) (k : Nat) : List Int := c.drop k ++ c.take k
theorem trn_len (c : List Int) {k : Nat} (h : k ≤ c.length) : (trn c k).length = c.length := by
  unfold trn
  rw [List.length_append, List.length_drop, List.length_take]
  omega
theorem trn_L4 {c : List Int} (h : L4 c) (k : Nat) : L4 (trn c k) := fun i hi => by
  rcases List.mem_append.mp hi with q | q
  · exact h i (List.mem_of_mem_drop q)
  · exact h i (List.mem_of_mem_take q)
theorem trn_ok {c : List Int} (hl : c.length ≤ 1000) {e : En} {i j : Nat} {k : Nat} (ei : e[i]? = some (some (.d (tw c)))) (ej : e[j]? = some (some (.d (.int (k : Int))))) : p2 DL.gAdd (pSl (pName i) (oSome (pName j)) oNone) (pSl (pName i) oNone (oSome (pName j))) e = some (.fz (tw (trn c k))) := by
  have n1 : pName i e = some (.fz (tw c)) := by unfold pName; rw [ei]
  have n2 : pName j e = some (.fz (.int (k : Int))) := by unfold pName; rw [ej]
  have o2 : oSome (pName j) e = some (some (k : Int)) := by unfold oSome; rw [n2]; rfl
  have x1 : pSl (pName i) (oSome (pName j)) oNone e = some (.fz (tw (c.drop k))) := by
    unfold pSl
    rw [n1, o2]
    show some (RV.fz (.tup (DL.cutD (dints c) (some (k : Int)) none))) = _
    rw [cut_from, ← dints_drop]
  have x2 : pSl (pName i) oNone (oSome (pName j)) e = some (.fz (tw (c.take k))) := by
    unfold pSl
    rw [n1, o2]
    show some (RV.fz (.tup (DL.cutD (dints c) none (some (k : Int))))) = _
    rw [cut_to, ← dints_take]
  refine (p2_ok x1 x2).trans ?_
  show (if (dints (c.drop k)).length + (dints (c.take k)).length ≤ SZ then some (RV.fz (.tup (dints (c.drop k) ++ dints (c.take k)))) else none) = _
  rw [if_pos (by rw [dints_length, dints_length, List.length_drop, List.length_take]; unfold SZ; omega), ← dints_append]
  rfl
theorem rg1_len {f : FP} {e : En} {n : Nat} (h : f e = some (.fz (.int (n : Int)))) (hn : n ≤ 1000) : iRg1 (aCons f aNil) e = some ((List.range n).map fun (i : Nat) => D.int (i : Nat), true) := by
  have x : aCons f aNil e = some [.fz (.int (n : Int))] := aCons_ok (rs := []) h rfl
  have y := rgR1_ok (j := (n : Int)) (i62_small (by omega) (by omega))
  rw [Int.toNat_natCast, rangeD0] at y
  unfold iRg1
  rw [x, Option.bind_some]
  exact y
theorem len_tw {e : En} {i : Nat} {w : List Int} (h : e[i]? = some (some (.d (tw w)))) : pCa gLen (aCons (pName i) aNil) e = some (.fz (.int (w.length : Int))) := by
  have n1 : pName i e = some (.fz (tw w)) := by unfold pName; rw [h]
  refine (pCa_ok (aCons_ok (rs := []) n1 rfl)).trans ?_
  show some (RV.fz (.int ((dints w).length : Nat))) = _
  rw [dints_length]
theorem any_bls (bs : List Bool) : gAny [.lst (bs.map bl)] = some (.fz (.bl (bs.any id))) := by
  show (bls? (bs.map bl)).map (fun bs => RV.fz (.bl (bs.any id))) = _
  rw [bls_bl]
  rfl
abbrev P_tr : FP := p2 DL.gAdd (pSl (pName 0) (oSome (pName 1)) oNone) (pSl (pName 0) oNone (oSome (pName 1)))
theorem tr_list {c : List Int} (hl : c.length ≤ 1000) : lcL (gNm 1) tAll P_tr [some (.d (tw c)), none] ((List.range c.length).map fun (i : Nat) => D.int (i : Nat)) = some ((List.range c.length).map fun k => tw (trn c k)) :=
  lcI_all (e := [some (.d (tw c)), none]) (i := 1) (by show 1 < 2; decide) _ fun k hk => ⟨_, trn_ok hl rfl rfl, rfl⟩
theorem tr_rg {c : List Int} (hl : c.length ≤ 1000) : iRg1 (aCons (pCa gLen (aCons (pName 0) aNil)) aNil) [some (.d (tw c)), none] = some ((List.range c.length).map fun (i : Nat) => D.int (i : Nat), true) := rg1_len (len_tw (e := [some (.d (tw c)), none]) (i := 0) rfl) hl
theorem tr_lc {c : List Int} (hl : c.length ≤ 1000) : pLc [1] (iRg1 (aCons (pCa gLen (aCons (pName 0) aNil)) aNil)) (gNm 1) tAll P_tr [some (.d (tw c)), none] = some (.fr ((List.range c.length).map fun k => tw (trn c k))) := pLc_fr (tr_rg hl) (tr_list hl) (by rw [List.length_map, List.length_range]; omega)
/-! ### the law's look -/

/-! from P14h -/
open PySem PySem.Spec PyProof.Rows L2 DL
open FG (Red red inv pw push stk ledr Rot rotB Rgo)
/-! # leader_of -/
abbrev G_tt : FG := gTp 2 (gsCons (gTp 2 (gsCons (gNm 2) (gsCons (gNm 3) gsNil))) (gsCons (gTp 2 (gsCons (gNm 4) (gsCons (gNm 5) gsNil))) gsNil))
abbrev P_w1 : FP := pFd F_put_together (aCons (pLst (aCons (pName 2) (aCons (pSl (pName 3) oNone (oSome (pName 8))) (aCons (pFd F_undone_of (aCons (pName 4) aNil)) aNil)))) aNil)
abbrev P_w2 : FP := pFd F_put_together (aCons (pLst (aCons (pName 2) (aCons (pFd F_undone_of (aCons (pSl (pName 3) (oSome (pName 8)) oNone) aNil)) (aCons (pFd F_undone_of (aCons (pName 4) aNil)) aNil)))) aNil)
abbrev en (w o h c l d : List Int) (x6 x7 : Option S) : En := [some (.d (tw w)), some (.d (tw o)), some (.d (tw h)), some (.d (tw c)), some (.d (tw l)), some (.d (tw d)), x6, x7, none, none]
def spots (c d : List Int) : List Nat := (List.range c.length).filter fun k => decide (trn c k = d)
theorem so_list {w o h c l d : List Int} (c4 : L4 c) (d4 : L4 d) (cl : c.length ≤ 1000) (x6 x7 : Option S) : lcL (gTp 2 (gsCons (gNm 8) (gsCons (gNm 9) gsNil))) (tVal (p2 gEq (pName 9) (pName 5))) (pName 8) (en w o h c l d x6 x7) ((List.range c.length).map fun i => D.tup [.int (i : Nat), tw (trn c i)]) = some ((spots c d).map fun (k : Nat) => D.int (k : Nat)) :=
  lcA_some (E := fun i => [some (.d (tw w)), some (.d (tw o)), some (.d (tw h)), some (.d (tw c)), some (.d (tw l)), some (.d (tw d)), x6, x7, some (.d (.int (i : Nat))), some (.d (tw (trn c i)))]) _ (fun i _ => rfl) (fun i _ => tVal_ok ((p2_ok (a := .fz (tw (trn c i))) (b := .fz (tw d)) rfl rfl).trans (gEq_tw (trn_L4 c4 i) d4))) fun i _ _ => ⟨_, rfl, rfl⟩
theorem spots_mem {c d : List Int} {k : Nat} (h : k ∈ spots c d) : k < c.length ∧ trn c k = d := by
  obtain ⟨a, b⟩ := List.mem_filter.mp h
  exact ⟨List.mem_range.mp a, of_decide_eq_true b⟩
theorem spots_rot {c d : List Int} (hc : c ≠ []) : decide (spots c d = []) = !rotB c d := by
  cases hr : rotB c d with
  | true =>
    refine decide_eq_false fun z => ?_
    unfold rotB at hr
    simp only [Bool.and_eq_true, Bool.or_eq_true, decide_eq_true_eq, List.any_eq_true, List.mem_range] at hr
    obtain ⟨_, q | ⟨k, hk, e⟩⟩ := hr
    · exact hc q
    · have : k ∈ spots c d := List.mem_filter.mpr ⟨List.mem_range.mpr hk, decide_eq_true e⟩
      rw [z] at this
      cases this
  | false =>
    refine decide_eq_true ?_
    rcases List.eq_nil_or_concat (spots c d) with z | ⟨t, k, z⟩
    · exact z
    · have : k ∈ spots c d := by rw [z]; simp
      obtain ⟨hk, e⟩ := spots_mem this
      have : rotB c d = true := FG.rotB_iff.mpr ⟨c.take k, c.drop k, (List.take_append_drop k c).symm, e.symm⟩
      rw [hr] at this
      cases this
theorem natD (ks : List Nat) : (ks.map fun (k : Nat) => D.int (k : Nat)) = dints (ks.map fun k => ((k : Nat) : Int)) := by
  show _ = (ks.map fun k => ((k : Nat) : Int)).map D.int
  rw [List.map_map]
  rfl
theorem eq_nil_ok {ks : List Nat} (hk : ∀ k ∈ ks, k ≤ 1000) : gEq (.lst (ks.map fun (k : Nat) => D.int (k : Nat))) (.lst []) = some (.fz (.bl (decide (ks = [])))) := by
  rw [natD]
  have n1 : (D.lst (dints (ks.map fun k => ((k : Nat) : Int)))).nice = true := nice_dints fun i hi => by
    obtain ⟨k, hm, rfl⟩ := List.mem_map.mp hi
    have := hk k hm
    omega
  have d1 : (D.lst (dints (ks.map fun k => ((k : Nat) : Int)))).dep ≤ 64 := by show depL (dints _) + 1 ≤ 64; rw [dep_dints]; decide
  rw [gEq_nice n1 (y := .lst []) rfl d1 (by decide), show eqb (D.lst (dints (ks.map fun k => ((k : Nat) : Int)))) (D.lst []) = decide ((ks.map fun k => ((k : Nat) : Int)) = []) from eqb_lstI _ []]
  congr 3
  exact decide_eq_decide.mpr List.map_eq_nil_iff
theorem w1_ok {w o h c l d : List Int} (h4 : L4 h) (c4 : L4 c) (l4 : L4 l) (hl : h.length + c.length + l.length ≤ 1000) {e : En} {k : Nat} (e2 : e[2]? = some (some (.d (tw h)))) (e3 : e[3]? = some (some (.d (tw c)))) (e4 : e[4]? = some (some (.d (tw l)))) (e8 : e[8]? = some (some (.d (.int (k : Nat))))) :
    P_w1 e = some (.fz (tw (red (h ++ c.take k ++ inv l)))) := by
  have x1 : pSl (pName 3) oNone (oSome (pName 8)) e = some (.fz (tw (c.take k))) := by
    have o2 : oSome (pName 8) e = some (some (k : Int)) := by unfold oSome; rw [pN e8]; rfl
    unfold pSl
    rw [pN e3, o2]
    show some (RV.fz (.tup (DL.cutD (dints c) none (some (k : Int))))) = _
    rw [cut_to, ← dints_take]
  have x2 : pFd F_undone_of (aCons (pName 4) aNil) e = some (.fz (tw (inv l))) := call1 (pN e4) (undone_of_ok (by omega))
  exact call1r (lst3_ok (pN e2) x1 x2) (put3_ok h4 (c4.take k) l4.inv (by rw [List.length_take, FG.inv_length]; omega))
theorem L4.drop {w : List Int} (h : L4 w) (n : Nat) : L4 (w.drop n) := fun i hi => h i (List.mem_of_mem_drop hi)
theorem w2_ok {w o h c l d : List Int} (h4 : L4 h) (c4 : L4 c) (l4 : L4 l) (hl : h.length + c.length + l.length ≤ 1000) {e : En} {k : Nat} (e2 : e[2]? = some (some (.d (tw h)))) (e3 : e[3]? = some (some (.d (tw c)))) (e4 : e[4]? = some (some (.d (tw l)))) (e8 : e[8]? = some (some (.d (.int (k : Nat))))) :
    P_w2 e = some (.fz (tw (red (h ++ inv (c.drop k) ++ inv l)))) := by
  have x1 : pSl (pName 3) (oSome (pName 8)) oNone e = some (.fz (tw (c.drop k))) := by
    have o2 : oSome (pName 8) e = some (some (k : Int)) := by unfold oSome; rw [pN e8]; rfl
    unfold pSl
    rw [pN e3, o2]
    show some (RV.fz (.tup (DL.cutD (dints c) (some (k : Int)) none))) = _
    rw [cut_from, ← dints_drop]
  have x2 : pFd F_undone_of (aCons (pName 4) aNil) e = some (.fz (tw (inv l))) := call1 (pN e4) (undone_of_ok (by omega))
  have x3 := call1 x1 (undone_of_ok (w := c.drop k) (by rw [List.length_drop]; omega))
  exact call1r (lst3_ok (pN e2) x3 x2) (put3_ok h4 (c4.drop k).inv l4.inv (by rw [FG.inv_length, List.length_drop, FG.inv_length]; omega))
def ways (h c l : List Int) (ks : List Nat) : List (List Int) := (ks.map fun k => red (h ++ c.take k ++ inv l)) ++ ks.map fun k => red (h ++ inv (c.drop k) ++ inv l)
theorem w1_list {w o h c l d : List Int} (h4 : L4 h) (c4 : L4 c) (l4 : L4 l) (hl : h.length + c.length + l.length ≤ 1000) (x6 x7 : Option S) (ks : List Nat) : lcL (gNm 8) tAll P_w1 (en w o h c l d x6 x7) (ks.map fun (k : Nat) => D.int (k : Nat)) = some (ks.map fun k => tw (red (h ++ c.take k ++ inv l))) :=
  lcI_all (e := en w o h c l d x6 x7) (i := 8) (by show 8 < 10; decide) ks fun k _ => ⟨_, w1_ok (w := w) (o := o) (d := d) h4 c4 l4 hl rfl rfl rfl rfl, rfl⟩
theorem w2_list {w o h c l d : List Int} (h4 : L4 h) (c4 : L4 c) (l4 : L4 l) (hl : h.length + c.length + l.length ≤ 1000) (x6 x7 : Option S) (ks : List Nat) : lcL (gNm 8) tAll P_w2 (en w o h c l d x6 x7) (ks.map fun (k : Nat) => D.int (k : Nat)) = some (ks.map fun k => tw (red (h ++ inv (c.drop k) ++ inv l))) :=
  lcI_all (e := en w o h c l d x6 x7) (i := 8) (by show 8 < 10; decide) ks fun k _ => ⟨_, w2_ok (w := w) (o := o) (d := d) h4 c4 l4 hl rfl rfl rfl rfl, rfl⟩
/-- a way leads -/
def Led (w o g : List Int) : Prop := Red g ∧ (∀ i ∈ g, i ∈ w ∨ -i ∈ w ∨ i ∈ o ∨ -i ∈ o) ∧ g.length ≤ w.length + o.length ∧ ledr w g = o
theorem way_led {w o h c l d g : List Int} (ro : Red o) (R : Rgo w h c) (R' : Rgo o l d) (hg : g ∈ ways h c l (spots c d)) : Led w o g := by
  have key : ∀ k ∈ spots c d, w = h ++ (c.take k ++ c.drop k) ++ inv h ∧ o = l ++ (c.drop k ++ c.take k) ++ inv l := fun k hk => by
    refine ⟨by rw [List.take_append_drop]; exact R.eq, ?_⟩
    have := (spots_mem hk).2
    rw [show c.drop k ++ c.take k = d from this]
    exact R'.eq
  have hm := rgo_mem R
  have hm' := rgo_mem R'
  have l1 := rgo_len R
  have l2 := rgo_len R'
  rcases List.mem_append.mp hg with q | q
  · obtain ⟨k, hk, rfl⟩ := List.mem_map.mp q
    obtain ⟨e1, e2⟩ := key k hk
    refine ⟨FG.red_red _, fun i hi => ?_, ?_, ?_⟩
    · rcases List.mem_append.mp (FG.mem_red hi) with a | a
      · rcases List.mem_append.mp a with a | a
        · exact .inl (hm.1 i a)
        · exact .inl (hm.2 i (List.mem_of_mem_take a))
      · exact .inr (.inr (.inr (hm'.1 _ (FG.mem_inv.mp a))))
    · have := FG.red_len (h ++ c.take k ++ inv l)
      simp only [List.length_append, FG.inv_length, List.length_take] at this
      omega
    · rw [e1]
      rw [e2] at ro
      rw [FG.way_on ro, ← e2]
  · obtain ⟨k, hk, rfl⟩ := List.mem_map.mp q
    obtain ⟨e1, e2⟩ := key k hk
    refine ⟨FG.red_red _, fun i hi => ?_, ?_, ?_⟩
    · rcases List.mem_append.mp (FG.mem_red hi) with a | a
      · rcases List.mem_append.mp a with a | a
        · exact .inl (hm.1 i a)
        · exact .inr (.inl (hm.2 _ (List.mem_of_mem_drop (FG.mem_inv.mp a))))
      · exact .inr (.inr (.inr (hm'.1 _ (FG.mem_inv.mp a))))
    · have := FG.red_len (h ++ inv (c.drop k) ++ inv l)
      simp only [List.length_append, FG.inv_length, List.length_drop] at this
      omega
    · rw [e1]
      rw [e2] at ro
      rw [FG.way_back ro, ← e2]
theorem Led.l4 {w o g : List Int} (h : Led w o g) (hw : L4 w) (ho : L4 o) : L4 g := fun i hi => by
  have n : ∀ j, Let 4 (-j) → Let 4 j := fun j hj => by unfold Let at *; omega
  rcases h.2.1 i hi with q | q | q | q
  · exact hw i q
  · exact n i (hw _ q)
  · exact ho i q
  · exact n i (ho _ q)
theorem Led.gw {r : Int} {w o g : List Int} (h : Led w o g) (hw : GW r w) (ho : GW r o) : GW r g := ⟨h.1, fun i hi => by
  have n : ∀ j, Let r (-j) → Let r j := fun j hj => by unfold Let at *; omega
  rcases h.2.1 i hi with q | q | q | q
  · exact hw.2 i q
  · exact n i (hw.2 _ q)
  · exact ho.2 i q
  · exact n i (ho.2 _ q)⟩
theorem led_nil : Led [] [] [] := ⟨trivial, (fun _ h => nomatch h), Nat.zero_le _, rfl⟩
/-- what leader_of tells: none, or a word that leads -/
def Told (w o : List Int) (due : Bool) (x : D) : Prop := (due = false ∧ x = .non) ∨ (due = true ∧ ∃ g, x = tw g ∧ Led w o g)
/-! from P14i -/
open PySem PySem.Spec PyProof.Rows L2 DL
open FG (Red red inv pw push stk ledr Rot rotB Rgo turn)
/-! # words of one length, sorted -/
def leW (v w : List Int) : Bool := !PySem.W.listLt (w.map lp) (v.map lp)
def sortW (U : List (List Int)) : List (List Int) := U.mergeSort leW
theorem sortW_perm (U : List (List Int)) : (sortW U).Perm U := List.mergeSort_perm U leW
def Same (n : Nat) (U : List (List Int)) : Prop := ∀ v ∈ U, L4 v ∧ v.length = n
/-- the law's items: places, turn -/
def it (v : List Int) : D := .tup [.lst (dints (v.map lp)), tw v]
theorem it_py (v : List Int) : (it v).py = PySem.W.Datum.toD ((v.map lp, (⟨v⟩ : PySem.W.Tup Int))) := by
  show PyData.tuple [PyData.list (pyL (dints (v.map lp))), PyData.tuple (pyL (dints v))] = _
  rw [pyL_ints, pyL_ints]
  rfl
theorem listLt_self : ∀ v : List Int, PySem.W.listLt v v = false
  | [] => rfl
  | a :: v => by
    unfold PySem.W.listLt
    rw [if_pos rfl]
    exact listLt_self v
theorem lp_inj {v w : List Int} (hv : L4 v) (hw : L4 w) (hl : v.length = w.length) (h : v.map lp = w.map lp) : v = w := by
  by_cases e : v = w
  · exact e
  · exfalso
    obtain ⟨q, x, u, y, z, rfl, rfl, hne⟩ := first_diff hl e
    have hx := hv x (by simp)
    have hy := hw y (by simp)
    rw [List.map_append, List.map_append] at h
    have h := List.append_cancel_left h
    rw [List.map_cons, List.map_cons] at h
    injection h with h _
    exact lp_ne hx hy hne h
theorem law_sort {n : Nat} {U : List (List Int)} (h : Same n U) : (U.map it).mergeSort (PySem.W.dataLe false D.py) = (sortW U).map it := by
  refine (PySem.W.sort_maps (r := leW) it fun v hv w hw => ?_).symm
  show leW v w = !PySem.W.dataLt (it w).py (it v).py
  obtain ⟨v4, vl⟩ := h v hv
  obtain ⟨w4, wl⟩ := h w hw
  rw [it_py, it_py, PySem.W.DatumOrd.lt_eq]
  show leW v w = !(if w.map lp = v.map lp then PySem.W.listLt w v else PySem.W.listLt (w.map lp) (v.map lp))
  unfold leW
  by_cases e : w.map lp = v.map lp
  · rw [if_pos e, e, lp_inj w4 v4 (by omega) e, listLt_self, listLt_self]
  · rw [if_neg e]
theorem sortW_mem {U : List (List Int)} {v : List Int} : v ∈ sortW U ↔ v ∈ U := (sortW_perm U).mem_iff
theorem sortW_same {n : Nat} {U : List (List Int)} (h : Same n U) : Same n (sortW U) := fun v hv => h v (sortW_mem.mp hv)
/-! ### unlike turns -/
theorem uniq_turns {c : List Int} {l : Nat} (hc : c ≠ []) (h : FG.IsLp c l) : ∀ m, m ≤ c.length → uniq ((List.range m).map (turn c)) = (List.range (min m l)).map (turn c)
  | 0, _ => by rw [Nat.zero_min]; rfl
  | m + 1, hm => by
    have ih := uniq_turns hc h m (by omega)
    rw [List.range_succ, List.map_append]
    show uniq ((List.range m).map (turn c) ++ [turn c m]) = _
    rw [uniq_snoc, ih]
    unfold addU
    by_cases q : m < l
    · rw [Nat.min_eq_left (by omega), Nat.min_eq_left (by omega), List.range_succ, List.map_append]
      rw [if_neg]
      · rfl
      · intro z
        obtain ⟨k, hk, e⟩ := List.mem_map.mp z
        exact FG.turn_ne hc h (List.mem_range.mp hk) q e
    · rw [Nat.min_eq_right (by omega), Nat.min_eq_right (by omega), if_pos]
      refine List.mem_map.mpr ⟨m % l, List.mem_range.mpr (Nat.mod_lt m h.1.1), ?_⟩
      exact (FG.turn_mod hc h.1 (by omega)).symm
theorem uniq_nodup (ws : List (List Int)) : (uniq ws).Nodup := by
  have : ∀ (ws acc : List (List Int)), acc.Nodup → (ws.foldl addU acc).Nodup := by
    intro ws
    induction ws with
    | nil => exact fun acc h => h
    | cons w ws ih =>
      intro acc h
      rw [List.foldl_cons]
      refine ih _ ?_
      unfold addU
      split
      · exact h
      · rename_i q
        rw [List.nodup_append]
        refine ⟨h, by simp, fun a ha b hb z => q ?_⟩
        rw [List.mem_singleton.mp hb] at z
        rw [← z]
        exact ha
  exact this ws [] List.nodup_nil
theorem uniq_mem {ws : List (List Int)} {v : List Int} : v ∈ uniq ws ↔ v ∈ ws := by
  have : ∀ (ws acc : List (List Int)), v ∈ ws.foldl addU acc ↔ v ∈ acc ∨ v ∈ ws := by
    intro ws
    induction ws with
    | nil => exact fun acc => by simp
    | cons w ws ih =>
      intro acc
      rw [List.foldl_cons, ih]
      have : v ∈ addU acc w ↔ v ∈ acc ∨ v = w := by
        unfold addU
        split
        · rename_i q
          exact ⟨.inl, fun h => h.elim id fun z => z ▸ q⟩
        · rw [List.mem_append, List.mem_singleton]
      rw [this, List.mem_cons, or_assoc]
  have q := this ws []
  simp only [List.not_mem_nil, false_or] at q
  exact q
theorem trn_turn (c : List Int) (k : Nat) : trn c k = turn c k := rfl
/-- the turns of a core, unlike ones, sorted -/
def TL (c : List Int) : List (List Int) := if c = [] then [[]] else sortW (uniq ((List.range c.length).map (turn c)))
theorem tl_same {c : List Int} (h : L4 c) : Same c.length (TL c) := by
  unfold TL
  split
  · rename_i z
    intro v hv
    rw [List.mem_singleton.mp hv, z]
    exact ⟨L4.nil, rfl⟩
  · refine sortW_same fun v hv => ?_
    obtain ⟨k, hk, rfl⟩ := List.mem_map.mp (uniq_mem.mp hv)
    exact ⟨trn_L4 h k, trn_len c (Nat.le_of_lt (List.mem_range.mp hk))⟩
theorem tl_mem {c v : List Int} (h : v ∈ TL c) : ∃ k, k ≤ c.length ∧ v = turn c k := by
  unfold TL at h
  split at h
  · rename_i z
    rw [List.mem_singleton.mp h, z]
    exact ⟨0, Nat.zero_le _, rfl⟩
  · obtain ⟨k, hk, e⟩ := List.mem_map.mp (uniq_mem.mp (sortW_mem.mp h))
    exact ⟨k, Nat.le_of_lt (List.mem_range.mp hk), e.symm⟩
theorem tl_has {c : List Int} {k : Nat} (hk : k < c.length) : turn c k ∈ TL c := by
  unfold TL
  rw [if_neg (fun z => by rw [z] at hk; exact absurd hk (by simp))]
  exact sortW_mem.mpr (uniq_mem.mpr (List.mem_map.mpr ⟨k, List.mem_range.mpr hk, rfl⟩))
theorem tl_len {c : List Int} {l : Nat} (hc : c ≠ []) (h : FG.IsLp c l) : (TL c).length = l := by
  unfold TL
  rw [if_neg hc, (sortW_perm _).length_eq, uniq_turns hc h c.length (Nat.le_refl _), List.length_map, List.length_range, Nat.min_eq_right h.1.2.1]
theorem tl_small {c : List Int} (hl : c.length ≤ 1000) : (TL c).length ≤ 1000 := by
  unfold TL
  split
  · decide
  · rw [(sortW_perm _).length_eq]
    exact Nat.le_trans (uniq_len _) (by rw [List.length_map, List.length_range]; exact hl)
/-! from P14j -/
open PySem PySem.Spec PyProof.Rows L2 DL
open FG (Red red inv pw push stk ledr Rot rotB Rgo turn)
/-! # the functions -/
theorem gEq_same {x : D} (n : x.nice = true) (d : x.dep ≤ 64) : gEq x x = some (.fz (.bl true)) := by rw [gEq_nice n n d d, eqb_refl n]
theorem gNe_same {x : D} (n : x.nice = true) (d : x.dep ≤ 64) : gNe x x = some (.fz (.bl false)) := by rw [gNe_nice n n d d, eqb_refl n]; rfl
theorem callK2 {F : List S → Out} {fa fb : FP} {e e' : En} {a b x : D} (ha : fa e = some (.fz a)) (hb : fb e = some (.fz b)) (h : F [.d b, .d a] = .ok (.d x) e') : pFdK F (permG 0 2 [1, 0]) 2 aNil (aCons fa (aCons fb aNil)) e = some (.fz x) :=
  (pFdK_ok (rs := []) (qs := [.fz a, .fz b]) (us := [.fz b, .fz a]) rfl (aCons_ok ha (aCons_ok (rs := []) hb rfl)) rfl rfl).trans (callP_fz h (.inl rfl))
theorem callK2r {F : List S → Out} {fa fb : FP} {e e' : En} {a b : D} {xs : List D} (ha : fa e = some (.fz a)) (hb : fb e = some (.fz b)) (h : F [.d b, .d a] = .ok (.lst xs) e') : pFdK F (permG 0 2 [1, 0]) 2 aNil (aCons fa (aCons fb aNil)) e = some (.fr xs) :=
  (pFdK_ok (rs := []) (qs := [.fz a, .fz b]) (us := [.fz b, .fz a]) rfl (aCons_ok ha (aCons_ok (rs := []) hb rfl)) rfl rfl).trans (callP_fr h rfl)
theorem call2r {F : List S → Out} {fa fb : FP} {e e' : En} {a b : D} {xs : List D} (ha : fa e = some (.fz a)) (hb : fb e = some (.fz b)) (h : F [.d a, .d b] = .ok (.lst xs) e') : pFd F (aCons fa (aCons fb aNil)) e = some (.fr xs) := (pFd_ok (aCons_ok ha (aCons_ok (rs := []) hb rfl))).trans (callP_fr h rfl)
/-! ### the law's turns -/
theorem idx_lp {r i : Int} (h1 : 1 ≤ r) (h2 : r ≤ 4) (h : Let r i) : i ∈ lets r ∧ (((lets r).idxOf i : Nat) : Int) = lp i := by
  have : r = 1 ∨ r = 2 ∨ r = 3 ∨ r = 4 := by omega
  have c : i = 1 ∨ i = -1 ∨ i = 2 ∨ i = -2 ∨ i = 3 ∨ i = -3 ∨ i = 4 ∨ i = -4 := by unfold Let at h; omega
  unfold Let at h
  rcases this with rfl | rfl | rfl | rfl <;> rcases c with rfl | rfl | rfl | rfl | rfl | rfl | rfl | rfl <;> first | exact ⟨by decide, by decide⟩ | (exfalso; omega)
abbrev sl (r : Int) (c : List Int) (x2 x4 x5 x6 : Option S) : En := [some (.d (.int r)), some (.d (tw c)), x2, some (.d (.lst (dints (lets r)))), x4, x5, x6, none, none]
abbrev B_lt : FS := sSeq (sSet 5 (mPP (p2 DL.gAdd (pSl (pName 1) (oSome (pName 4)) oNone) (pSl (pName 1) oNone (oSome (pName 4)))))) (sIf (tMT (tVal (p2 gNotIn (pName 5) (pName 2)))) (sExpr (mMt 2 gApp (mPP (pName 5)))) sNil)
theorem pyL_map (ls : List (List Int)) : pyL (ls.map tw) = ls.map fun w => (tw w).py := by
  induction ls with
  | nil => rfl
  | cons w ls ih =>
    show (tw w).py :: pyL (ls.map tw) = _
    rw [ih]
    rfl
theorem nl_tw : ∀ ls : List (List Int), (∀ w ∈ ls, L4 w) → niceL (ls.map tw) = true ∧ depL (ls.map tw) ≤ 1
  | [], _ => ⟨rfl, Nat.zero_le _⟩
  | w :: ls, h => by
    obtain ⟨a, b⟩ := nl_tw ls fun x hx => h x (List.mem_cons_of_mem _ hx)
    refine ⟨?_, ?_⟩
    · show ((tw w).nice && niceL (ls.map tw)) = true
      rw [nice_tw (h w List.mem_cons_self), a]
      rfl
    · show max (depL (dints w) + 1) (depL (ls.map tw)) ≤ 1
      rw [dep_dints]
      omega
theorem inb_tw (v : List Int) : ∀ ls : List (List Int), inb (tw v) (ls.map tw) = decide (v ∈ ls) := by
  intro ls
  unfold inb
  rw [pyL_map, List.any_map]
  induction ls with
  | nil => rfl
  | cons w ls ih =>
    rw [List.any_cons, ih]
    show (eqb (tw w) (tw v) || decide (v ∈ ls)) = _
    rw [eqb_tupI, ← Bool.decide_or]
    refine decide_eq_decide.mpr ?_
    rw [List.mem_cons]
    exact ⟨fun h => h.imp Eq.symm id, fun h => h.imp Eq.symm id⟩
theorem notIn_tw {v : List Int} {ls : List (List Int)} (hv : L4 v) (hl : ∀ w ∈ ls, L4 w) : gNotIn (tw v) (.lst (ls.map tw)) = some (.fz (.bl (!decide (v ∈ ls)))) := by
  obtain ⟨n2, d2⟩ := nl_tw ls hl
  show (if eqok (tw v) = true ∧ eqok (.lst (ls.map tw)) = true then some (RV.fz (.bl (if true = true then !inb (tw v) (ls.map tw) else inb (tw v) (ls.map tw)))) else none) = _
  rw [if_pos ⟨eqok_nice (nice_tw hv) (dep_tw v), eqok_nice (d := .lst (ls.map tw)) n2 (by show depL (ls.map tw) + 1 ≤ 64; omega)⟩, inb_tw]
  rfl
theorem lt_step {r : Int} {c : List Int} (c4 : L4 c) (cl : c.length ≤ 900) {k : Nat} (acc : List (List Int)) (ha : ∀ v ∈ acc, L4 v) (hz : acc.length ≤ 900) (x5 x6 : Option S) :
    B_lt (sl r c (some (.lst (acc.map tw))) (some (.d (.int (k : Nat)))) x5 x6) = .nx (sl r c (some (.lst ((addU acc (turn c k)).map tw))) (some (.d (.int (k : Nat)))) (some (.d (tw (turn c k)))) x6) := by
  have q1 : sSet 5 (mPP (p2 DL.gAdd (pSl (pName 1) (oSome (pName 4)) oNone) (pSl (pName 1) oNone (oSome (pName 4))))) (sl r c (some (.lst (acc.map tw))) (some (.d (.int (k : Nat)))) x5 x6) = .nx (sl r c (some (.lst (acc.map tw))) (some (.d (.int (k : Nat)))) (some (.d (tw (turn c k)))) x6) := set_fz (trn_ok (c := c) (i := 1) (j := 4) (k := k) (by omega) rfl rfl) (by show 5 < 9; decide)
  have t : tVal (p2 gNotIn (pName 5) (pName 2)) (sl r c (some (.lst (acc.map tw))) (some (.d (.int (k : Nat)))) (some (.d (tw (turn c k)))) x6) = some (!decide (turn c k ∈ acc)) := tVal_ok ((p2_ok (a := .fz (tw (turn c k))) (b := .ow (acc.map tw)) rfl rfl).trans (notIn_tw (trn_L4 c4 k) ha))
  refine (seq_nx q1).trans ?_
  unfold addU
  by_cases q : turn c k ∈ acc
  · rw [decide_eq_true q] at t
    rw [if_pos q]
    exact (if_f t).trans rfl
  · rw [decide_eq_false q] at t
    rw [if_neg q]
    refine (if_t t).trans ?_
    have z : acc.length < SZ := by unfold SZ; omega
    simp [z]
theorem lt_loop {r : Int} {c : List Int} (c4 : L4 c) (cl : c.length ≤ 900) (x6 : Option S) : ∀ (n b : Nat) (acc : List (List Int)) (x4 x5 : Option S), (∀ v ∈ acc, L4 v) → acc.length + n ≤ 900 →
    ∃ y4 y5, forL (gNm 4) B_lt ((List.range' b n).map fun (i : Nat) => D.int (i : Nat)) (sl r c (some (.lst (acc.map tw))) x4 x5 x6) = .nx (sl r c (some (.lst ((((List.range' b n).map (turn c)).foldl addU acc).map tw))) y4 y5 x6)
  | 0, b, acc, x4, x5, _, _ => ⟨x4, x5, rfl⟩
  | n + 1, b, acc, x4, x5, ha, hz => by
    have s := lt_step (r := r) c4 cl (k := b) acc ha (by omega) x5 x6
    have al := addU_len acc (turn c b)
    obtain ⟨y4, y5, ih⟩ := lt_loop c4 cl x6 n (b + 1) (addU acc (turn c b)) (some (.d (.int (b : Nat)))) (some (.d (tw (turn c b)))) (fun v hv => by
      unfold addU at hv
      split at hv
      · exact ha v hv
      · rcases List.mem_append.mp hv with q | q
        · exact ha v q
        · rw [List.mem_singleton.mp q]; exact trn_L4 c4 b) (by omega)
    exact ⟨y4, y5, (forL_nx rfl s).trans ih⟩
abbrev P_it : FP := pTup (aCons (pLc [7] (iSeq (pName 5)) (gNm 7) tAll (pLi (pName 3) (pName 7))) (aCons (pName 5) aNil))
theorem it_ok {r : Int} (h1 : 1 ≤ r) (h2 : r ≤ 4) {v : List Int} (hv : ∀ i ∈ v, Let r i) (vl : v.length ≤ 900) {e : En} (el : e.length = 9) (e3 : e[3]? = some (some (.d (.lst (dints (lets r)))))) (e5 : e[5]? = some (some (.d (tw v)))) (e7 : e[7]? = some none) : P_it e = some (.fz (it v)) := by
  have we : wipeE e [7] = e := by
    show e.set 7 none = e
    refine List.ext_getElem? fun j => ?_
    by_cases q : 7 = j
    · subst q
      rw [List.getElem?_set_self (by omega), e7]
    · rw [List.getElem?_set_ne q]
  have li : lcL (gNm 7) tAll (pLi (pName 3) (pName 7)) e (v.map D.int) = some (v.map fun i => D.int (lp i)) :=
    lcI_all (by omega) v fun i hi => by
      obtain ⟨m, q⟩ := idx_lp h1 h2 (hv i hi)
      refine ⟨.fz (.int (lp i)), ?_, rfl⟩
      have n3 : (e.set 7 (some (.d (.int i))))[3]? = some (some (.d (.lst (dints (lets r))))) := by rw [List.getElem?_set_ne (by decide)]; exact e3
      have n7 : (e.set 7 (some (.d (.int i))))[7]? = some (some (.d (.int i))) := by rw [List.getElem?_set_self (by omega)]
      unfold pLi
      rw [pN n3, Option.bind_some, pN n7, Option.bind_some]
      show (ints? (dints (lets r))).bind (fun ns => if i ∈ ns then some (RV.fz (.int (ns.idxOf i : Nat))) else none) = _
      have : ∀ w : List Int, ints? (dints w) = some w := fun w => by
        induction w with
        | nil => rfl
        | cons i w ih =>
          show (ints? (dints w)).map (i :: ·) = _
          rw [ih]
          rfl
      rw [this, Option.bind_some, if_pos m, q]
  rw [← we] at li
  have sq : iSeq (pName 5) e = some (v.map D.int, true) := by
    unfold iSeq
    rw [pN e5]
    rfl
  have x1 := pLc_fr (vs := [7]) sq li (by rw [List.length_map]; omega)
  have e2 : (v.map fun i => D.int (lp i)) = dints (v.map lp) := by
    show _ = (v.map lp).map D.int
    rw [List.map_map]
    rfl
  rw [e2] at x1
  exact pTup_ok (aCons_ok x1 (aCons_ok (rs := []) (pN e5) rfl)) rfl (by show 2 ≤ 1000; decide)
theorem it_nice {v : List Int} (h : L4 v) : (it v).nice = true := by
  show (niceL (dints (v.map lp)) && ((tw v).nice && true)) = true
  rw [nice_tw h, nice_dints fun i hi => by
    obtain ⟨l, hm, rfl⟩ := List.mem_map.mp hi
    have := lp_small (h l hm)
    omega]
  rfl
theorem it_dep (v : List Int) : (it v).dep = 2 := by
  show max (depL (dints (v.map lp)) + 1) (max (depL (dints v) + 1) 0) + 1 = 2
  rw [dep_dints, dep_dints]
  rfl
theorem okData_it {U : List (List Int)} (h : ∀ v ∈ U, L4 v) : okData (U.map it) = true := by
  unfold okData
  rw [Bool.and_eq_true]
  refine ⟨List.all_eq_true.mpr fun d hd => ?_, List.all_eq_true.mpr fun d hd => List.all_eq_true.mpr fun e he => ?_⟩
  · obtain ⟨v, hv, rfl⟩ := List.mem_map.mp hd
    rw [D.nice_okp _ (it_nice (h v hv)), decide_eq_true (by rw [D.py_depth _ (it_nice (h v hv)), it_dep]; decide : (it v).py.depth ≤ 64)]
    rfl
  · obtain ⟨v, hv, rfl⟩ := List.mem_map.mp hd
    obtain ⟨w, hw, rfl⟩ := List.mem_map.mp he
    rw [it_py, it_py]
    exact PySem.W.DatumOrd.alike _ _
/-! from P14k -/
open PySem PySem.Spec PyProof.Rows L2 DL
open FG (Red red inv pw push stk ledr Rot rotB Rgo turn)
/-! # the program's functions -/
theorem call1f {F : List S → Out} {fa : FP} {e e' : En} {a : D} {xs : List D} (ha : fa e = some (.fz a)) (h : F [.d a] = .ok (.lst xs) e') : pFd F (aCons fa aNil) e = some (.fr xs) := (pFd_ok (aCons_ok (rs := []) ha rfl)).trans (callP_fr h rfl)
theorem ints_dints : ∀ w : List Int, ints? (dints w) = some w
  | [] => rfl
  | i :: w => by
    show (ints? (dints w)).map (i :: ·) = _
    rw [ints_dints w]
    rfl
theorem iws_tw : ∀ ws : List (List Int), iws? (ws.map tw) = some ws
  | [] => rfl
  | w :: ws => by
    show ((iw? (tw w)).bind fun w => (iws? (ws.map tw)).map fun ws => w :: ws) = _
    rw [iws_tw ws]
    show ((ints? (dints w)).bind fun w => some (w :: ws)) = _
    rw [ints_dints]
    rfl
section
variable {r : Int} (h1 : 1 ≤ r) (h2 : r ≤ 4)
include h1 h2
abbrev rt4 (r : Int) (w c : List Int) : En := [some (.d (.int r)), some (.d (tw w)), some (.d (tw c)), none]
omit h1 h2 in
theorem sd_list {w c : List Int} : lcL (gNm 3) tAll (pName 3) (rt4 r w c) (((List.range c.length).map (turn c)).map tw) = some (((List.range c.length).map (turn c)).map tw) :=
  lcI_all (e := rt4 r w c) (i := 3) (by show 3 < 4; decide) _ fun v _ => ⟨_, rfl, rfl⟩
end
/-! ### products of three -/

/-! from P14l -/
open PySem PySem.Spec PyProof.Rows L2 DL
open FG (Red red inv pw push stk ledr Rot rotB Rgo turn)
/-! # one word is right -/
theorem gAdd_tw (u v : List Int) (h : u.length + v.length ≤ 1000) : DL.gAdd (tw u) (tw v) = some (.fz (tw (u ++ v))) := by
  have l : (dints u).length + (dints v).length ≤ SZ := by rw [dints_length, dints_length]; unfold SZ; omega
  refine (show DL.gAdd (tw u) (tw v) = some (.fz (.tup (dints u ++ dints v))) from if_pos l).trans ?_
  rw [← dints_append]
abbrev oe (r : Int) (w h c : List Int) (x4 x5 x6 x7 x8 x9 x10 : Option S) : En := [some (.d (.int r)), some (.d (tw w)), some (.d (tw h)), some (.d (tw c)), x4, x5, x6, x7, x8, x9, x10, none, none, none]
abbrev T_o3 : FT := DL.tOr (tVal (p2 gNe (p2 DL.gAdd (p2 DL.gAdd (pName 2) (pName 3)) (pFd F__law_undone (aCons (pName 2) aNil))) (pName 1))) (tVal (p2 gNe (p2 gEq (pName 3) (pTup aNil)) (p2 gEq (pName 1) (pTup aNil))))
theorem nice_tws {ls : List (List Int)} {n : Nat} (h : Same n ls) : niceL (ls.map tw) = true ∧ depL (ls.map tw) ≤ 1 ∧ sizeL (ls.map tw) = ls.length * (n + 1) := by
  refine ⟨(nl_tw ls fun w hw => (h w hw).1).1, (nl_tw ls fun w hw => (h w hw).1).2, ?_⟩
  induction ls with
  | nil => simp [sizeL]
  | cons w ls ih =>
    have q := ih fun v hv => h v (List.mem_cons_of_mem _ hv)
    show sizeL (dints w) + 1 + sizeL (ls.map tw) = _
    rw [q, size_dints, (h w List.mem_cons_self).2, List.length_cons, Nat.succ_mul]
    omega
theorem late_pow {w h c : List Int} (R : Rgo w h c) (hw : Red w) {k : Int} (hk : k ≠ 0) : (if c ≠ [] then h ++ pw (if 0 < k then c else inv c) k.natAbs ++ inv h else []) = red (pw (if 0 < k then w else inv w) k.natAbs) := by
  by_cases z : c = []
  · rw [if_neg (fun q => q z)]
    have e := (FG.rgo_core R).mp z
    subst e
    have : ∀ n, pw ([] : List Int) n = [] := fun n => by
      induction n with
      | zero => rfl
      | succ n ih => show [] ++ pw [] n = []; rw [ih]; rfl
    have e2 : (if 0 < k then ([] : List Int) else inv []) = [] := by split <;> rfl
    rw [e2, this]
    rfl
  · rw [if_pos z]
    by_cases q : 0 < k
    · rw [if_pos q, if_pos q, FG.rgo_pow R hw z (by omega)]
    · rw [if_neg q, if_neg q]
      have iz : inv c ≠ [] := FG.inv_ne z
      rw [FG.rgo_pow (FG.rgo_inv R) (FG.red_inv hw) iz (by omega)]
section
variable {r : Int} (h1 : 1 ≤ r) (h2 : r ≤ 4) {w h c : List Int} (hw : Wd r w) (R : Rgo w h c) (wl : w.length ≤ 30)
include h1 h2 hw R wl
theorem o_core : Wd r c ∧ c.length ≤ 30 ∧ h.length ≤ 30 ∧ L4 h := by
  have cl := rgo_len R
  have e := (R : Rgo w h c)
  have g : GW r c := by
    refine ⟨?_, fun i hi => hw.1.2 i ((rgo_mem R).2 i hi)⟩
    have := hw.red
    rw [FG.Rgo.eq R] at this
    exact (FG.Red.left this).right
  exact ⟨⟨g, by omega⟩, by omega, by omega, fun i hi => hw.l4 h2 i ((rgo_mem R).1 i hi)⟩
theorem o3_ok : T_o3 (oe r w h c none none none none none none none) = some false := by
  obtain ⟨hc, cl, hl, h4⟩ := o_core h1 h2 hw R wl
  have c4 := hc.l4 h2
  have w4 := hw.l4 h2
  have x1 : p2 DL.gAdd (pName 2) (pName 3) (oe r w h c none none none none none none none) = some (.fz (tw (h ++ c))) := (p2_ok (a := .fz (tw h)) (b := .fz (tw c)) rfl rfl).trans (gAdd_tw h c (by omega))
  have x2 : pFd F__law_undone (aCons (pName 2) aNil) (oe r w h c none none none none none none none) = some (.fz (tw (inv h))) := call1 (a := tw h) rfl (law_undone_ok (by omega))
  have x3 := (p2_ok x1 x2).trans (gAdd_tw (h ++ c) (inv h) (by rw [List.length_append, FG.inv_length]; omega))
  rw [← FG.Rgo.eq R] at x3
  refine (tOr_ok (a := false) (b := false) (ne_f x3 (b := .fz (tw w)) rfl rfl (nice_tw w4) (dep_tw w)) fun _ => ?_).trans rfl
  have y1 : p2 gEq (pName 3) (pTup aNil) (oe r w h c none none none none none none none) = some (.fz (.bl (decide (c = [])))) := (p2_ok (a := .fz (tw c)) (b := .fz (tw [])) rfl rfl).trans (gEq_tw c4 L4.nil)
  have y2 : p2 gEq (pName 1) (pTup aNil) (oe r w h c none none none none none none none) = some (.fz (.bl (decide (w = [])))) := (p2_ok (a := .fz (tw w)) (b := .fz (tw [])) rfl rfl).trans (gEq_tw w4 L4.nil)
  refine ne_f y1 y2 ?_ rfl (by show 0 ≤ 64; omega)
  show D.bl (decide (c = [])) = D.bl (decide (w = []))
  congr 1
  rw [decide_eq_decide]
  exact FG.rgo_core R
end

/-! from P14n -/
open PySem PySem.Spec PyProof.Rows L2 DL
open FG (Red red inv pw push stk ledr Rot rotB Rgo turn)
/-! # the law -/
section
variable {r : Int} (h1 : 1 ≤ r) (h2 : r ≤ 4)
include h1 h2
end
abbrev M_w (m : FM) : FM := mFd 3 F__law_word (arBw 0 (arFz (mPP (pName 1)) (arFz m arNil)))
abbrev M_d (n : Int) : FM := mFd 2 F__law_draw (arBw 0 (arFz (mPP (pCon (.int n))) arNil))
abbrev re (p : List D) (r : Int) (x2 x3 x4 x5 : Option S) : En := [some (.lst p), some (.d (.int r)), x2, x3, x4, x5]
theorem three (h s : List Int) : red ([red (h ++ s ++ inv h), red (h ++ s ++ inv h), red (h ++ s ++ inv h)].flatten) = red (h ++ pw s 3 ++ inv h) := by
  have e : [red (h ++ s ++ inv h), red (h ++ s ++ inv h), red (h ++ s ++ inv h)].flatten = pw (red (h ++ s ++ inv h)) 3 := by simp [pw]
  rw [e]
  exact FG.red_of_eqv (FG.eqv_trans (FG.eqv_pw (FG.eqv_symm (FG.eqv_red _)) 3) (FG.eqv_led h s 2))
/-! from P15b -/
open PySem PySem.Spec PyProof.Rows L2 DL
open FG (Red red inv pw push stk)
/-! ### words as data -/
/-! ### reduced_of -/
/-! ### undone_of -/
/-! ### put_together -/
/-! ### while -/
/-! ### ring_of -/
/-! from P15c -/
open PySem PySem.Spec PyProof.Rows L2 DL
open FG (Red red inv pw push stk)
/-! ### periods -/
/-! ### root_of -/
/-! ### the law's rings -/
/-! from P15d -/
open PySem PySem.Spec PyProof.Rows L2 DL
open FG (Red red inv pw push stk)
/-! ### the law's reducing -/
/-! ### the law's products -/
/-! ### exponents -/
/-! ### the law's exponents -/
theorem nth4 {o : List Int} (h : L4 o) (n : Nat) : L4 (FG.nth o n) := (h.pw n).red
/-! from P15e -/
open PySem PySem.Spec PyProof.Rows L2 DL
open FG (Red red inv pw push stk)
/-! ### functions from outside -/
section
variable {r : Int} (h1 : 1 ≤ r) (h2 : r ≤ 4)
include h1 h2
end

end G76

set_option maxHeartbeats 4000000
namespace G76
open PySem PySem.Spec PyProof.Rows L2 DL
theorem pot_ok (ns : List Int) {t : Int} (t0 : 0 ≤ t) (t1 : t ≤ 2) : ∃ q, Pot q ∧ F__law_pot [.d (.ro (dints ns)), .d (.int t)] = .ok (.lst q) [some (.d (.ro (dints ns))), some (.d (.int t))] := by
  have fin : ∀ c : Int, ∃ q, Pot q ∧ (sRet (mPP (pLst (aCons (pCa gMax2 (aCons (pCon (.int 0)) (aCons (p2 DL.gSub (pName 2) (p2 gPow (pCon (.int 10)) (pCon (.int 18)))) aNil))) (aCons (p2 DL.gAdd (p2 gMod (pCa gInt (aCons (p2 DL.gAdd (p2 DL.gAdd (p2 DL.gMul (p2 gMod (pCa gInt (aCons (pName 2) aNil)) (pCon (.int 2147483549))) (pCon (.int 40014))) (p2 DL.gMul (pCon (.int 7499)) (pName 1))) (pCon (.int 1367))) aNil)) (pCon (.int 2147483563))) (pCon (.int 1))) aNil)))) [some (.d (.ro (dints ns))), some (.d (.int t)), some (.d (.int c))] = .rt (.lst q) [some (.d (.ro (dints ns))), some (.d (.int t)), some (.d (.int c))]) := fun c => by
    have c0 : 0 ≤ c % 2147483549 := Int.emod_nonneg _ (by decide)
    have c1 : c % 2147483549 < 2147483549 := Int.emod_lt_of_pos _ (by decide)
    have m1 := gMul_int (i := c % 2147483549) (j := 40014) (by omega) (by decide)
    have m2' := gMul_int (i := 7499) (j := t) (by decide) (by omega)
    refine ⟨[.int (if c - 10 ^ 18 > 0 then c - 10 ^ 18 else 0), .int ((c % 2147483549 * 40014 + 7499 * t + 1367) % 2147483563 + 1)], ⟨_, _, rfl, ?_, ?_, ?_⟩, ?_⟩
    · split <;> omega
    · have := Int.emod_nonneg (c % 2147483549 * 40014 + 7499 * t + 1367) (show (2147483563 : Int) ≠ 0 by decide)
      omega
    · have := Int.emod_lt_of_pos (c % 2147483549 * 40014 + 7499 * t + 1367) (show (0 : Int) < 2147483563 by decide)
      omega
    · simp [m1, m2', show 2 ≤ SZ by decide]
  have m0 := gMul_int (i := 2789) (j := t) (by decide) (by omega)
  have lt : ∀ y, tVal (p2 DL.gLt (pName 1) (pCa gLen (aCons (pName 0) aNil))) [some (.d (.ro (dints ns))), some (.d (.int t)), y] = some (decide (t < (ns.length : Int))) := fun y => by
    refine tVal_ok ?_
    show DL.gLt (.int t) (.int ((dints ns).length : Nat)) = _
    rw [dints_length]
    rfl
  have ab : ∀ y, t < (ns.length : Int) → ∃ c : Int, pCa gAbs (aCons (p2 gIx (pName 0) (pName 1)) aNil) [some (.d (.ro (dints ns))), some (.d (.int t)), y] = some (.fz (.int c)) := fun y q => by
    have hk : t.toNat < ns.length := by omega
    have a1 : atI (dints ns) t = some (.int ns[t.toNat]) := by
      rw [show dints ns = ns.map D.int from rfl, atI_map]
      unfold atI ixN
      rw [if_pos t0, if_pos q]
      simp [hk]
    have x1 : p2 gIx (pName 0) (pName 1) [some (.d (.ro (dints ns))), some (.d (.int t)), y] = some (.fz (.int ns[t.toNat])) :=
      (p2_ok (a := .fz (.ro (dints ns))) (b := .fz (.int t)) rfl rfl).trans (by
        show (atI (dints ns) t).map RV.fz = _
        rw [a1]
        rfl)
    exact ⟨_, (pCa_ok (aCons_ok (rs := []) x1 rfl)).trans rfl⟩
  have b : ∃ q c, Pot q ∧ B__law_pot [some (.d (.ro (dints ns))), some (.d (.int t)), none] = .rt (.lst q) [some (.d (.ro (dints ns))), some (.d (.int t)), some (.d (.int c))] := by
    have x : ∃ c : Int, (pIf (tVal (p2 DL.gLt (pName 1) (pCa gLen (aCons (pName 0) aNil)))) (pCa gAbs (aCons (p2 gIx (pName 0) (pName 1)) aNil)) (p2 DL.gAdd (p2 DL.gMul (pCon (.int 2789)) (pName 1)) (pCon (.int 1861)))) [some (.d (.ro (dints ns))), some (.d (.int t)), none] = some (.fz (.int c)) := by
      by_cases q : t < (ns.length : Int)
      · obtain ⟨c, e⟩ := ab none q
        refine ⟨c, ?_⟩
        unfold pIf
        rw [lt none, decide_eq_true q]
        exact e
      · refine ⟨2789 * t + 1861, ?_⟩
        unfold pIf
        rw [lt none, decide_eq_false q]
        simp [m0]
    obtain ⟨c, x⟩ := x
    obtain ⟨v, hv, e⟩ := fin c
    exact ⟨v, c, hv, (seq_nx (set_fz x (by show 2 < 3; decide))).trans e⟩
  obtain ⟨v, c, hv, e⟩ := b
  refine ⟨v, hv, ?_⟩
  unfold F__law_pot fnF
  rw [show lkOk [] 0 [.d (.ro (dints ns)), .d (.int t)] = true from rfl, if_pos rfl, show enter 3 [.d (.ro (dints ns)), .d (.int t)] = [some (.d (.ro (dints ns))), some (.d (.int t)), none] from rfl, e]
  rfl
end G76

set_option maxHeartbeats 4000000
namespace G76
open PySem PySem.Spec PyProof.Rows L2 DL FG
/-! # the law's own words: reduced, letters, drawn -/
theorem lr_eq : F__law_reduced = F_reduced_of := rfl
theorem lu_eq : F__law_undone = F_undone_of := rfl
theorem law_reduced_l {w : List Int} (h : L4 w) (hl : w.length < 100000) : F__law_reduced [.d (.lst (dints w))] = .ok (.d (tw (red w))) [some (.d (.lst (dints w)))] := by
  rw [lr_eq]
  exact reduced_of_ok h hl
theorem law_reduced_t {w : List Int} (h : L4 w) (hl : w.length < 100000) : F__law_reduced [.d (tw w)] = .ok (.d (tw (red w))) [some (.d (tw w))] := by
  rw [lr_eq]
  obtain ⟨t', e⟩ := ro_loop (some (.d (tw w))) w (s := []) (t := none) L4.nil h (by simpa using hl)
  have q1 : sSetO 1 (mPP (pLst aNil)) [some (.d (tw w)), none, none] = .nx [some (.d (tw w)), some (.lst []), none] := by simp
  have q2 : sFor (iSeq (pName 0)) (gNm 2) B_ro [some (.d (tw w)), some (.lst []), none] = .nx [some (.d (tw w)), some (.lst (dints (stk w []).reverse)), t'] := e
  have q3 : B_reduced_of [some (.d (tw w)), none, none] = .rt (.d (tw (red w))) [some (.d (tw w)), some (.lst (dints (stk w []).reverse)), t'] := (seq_nx q1).trans ((seq_nx q2).trans (ret_fz rfl))
  unfold F_reduced_of fnF
  rw [show enter 3 [.d (tw w)] = [some (.d (tw w)), none, none] from rfl, q3]
  rfl
def letz (r : Int) : List Int := if r = 1 then [1, -1] else if r = 2 then [1, 2, -1, -2] else if r = 3 then [1, 2, 3, -1, -2, -3] else [1, 2, 3, 4, -1, -2, -3, -4]
theorem letters_1 : F__law_letters [.d (.int 1)] = .ok (.lst [.int 1, .int (-1)]) [some (.d (.int 1))] := by rfl
theorem letters_2 : F__law_letters [.d (.int 2)] = .ok (.lst [.int 1, .int 2, .int (-1), .int (-2)]) [some (.d (.int 2))] := by rfl
theorem letters_3 : F__law_letters [.d (.int 3)] = .ok (.lst [.int 1, .int 2, .int 3, .int (-1), .int (-2), .int (-3)]) [some (.d (.int 3))] := by rfl
theorem letters_4 : F__law_letters [.d (.int 4)] = .ok (.lst [.int 1, .int 2, .int 3, .int 4, .int (-1), .int (-2), .int (-3), .int (-4)]) [some (.d (.int 4))] := by rfl
theorem lawlets_ok {r : Int} (h1 : 1 ≤ r) (h2 : r ≤ 4) : F__law_letters [.d (.int r)] = .ok (.lst (dints (letz r))) [some (.d (.int r))] := by
  have : r = 1 ∨ r = 2 ∨ r = 3 ∨ r = 4 := by omega
  rcases this with rfl | rfl | rfl | rfl
  · exact letters_1
  · exact letters_2
  · exact letters_3
  · exact letters_4
theorem letz_let {r : Int} (h1 : 1 ≤ r) (h2 : r ≤ 4) : ∀ i ∈ letz r, Let r i := by
  have : r = 1 ∨ r = 2 ∨ r = 3 ∨ r = 4 := by omega
  rcases this with rfl | rfl | rfl | rfl <;> intro i hi <;> simp [letz] at hi <;> unfold Let <;> omega
theorem letz_len {r : Int} (h1 : 1 ≤ r) (h2 : r ≤ 4) : 0 < (letz r).length ∧ (letz r).length ≤ 8 := by
  have : r = 1 ∨ r = 2 ∨ r = 3 ∨ r = 4 := by omega
  rcases this with rfl | rfl | rfl | rfl <;> decide
end G76

set_option maxHeartbeats 4000000
namespace G76
open PySem PySem.Spec PyProof.Rows L2 DL
open FG (Red red inv pw push stk)
abbrev M_lw : FM := mFd 2 F__law_pick (arBw 0 (arFz (mPP (pFd F__law_letters (aCons (pName 1) aNil))) arNil))
theorem mem_dints {x : D} {w : List Int} (h : x ∈ dints w) : ∃ i, i ∈ w ∧ x = .int i := by
  obtain ⟨i, hi, rfl⟩ := List.mem_map.mp (show x ∈ w.map D.int from h)
  exact ⟨i, hi, rfl⟩
theorem lw_elt {p : List D} (hp : Pot p) {r m : Int} (h1 : 1 ≤ r) (h2 : r ≤ 4) (t : Option S) : ∃ (i : Int) (p' : List D), Pot p' ∧ Let r i ∧ M_lw [some (.lst p), some (.d (.int r)), some (.d (.int m)), t] = .ok (.d (.int i)) [some (.lst p'), some (.d (.int r)), some (.d (.int m)), t] := by
  obtain ⟨x, p', hp', hx, e⟩ := pick_ok hp (dints (letz r)) (by rw [dints_length]; exact (letz_len h1 h2).1) (by rw [dints_length]; have := (letz_len h1 h2).2; omega)
  obtain ⟨i, hi, rfl⟩ := mem_dints hx
  refine ⟨i, p', hp', letz_let h1 h2 i hi, ?_⟩
  simp [M_lw, lawlets_ok h1 h2, e]
theorem lw_list {r m : Int} (h1 : 1 ≤ r) (h2 : r ≤ 4) : ∀ (ds : List D) (p : List D), Pot p → ∃ (w : List Int) (p' : List D), Pot p' ∧ (∀ i ∈ w, Let r i) ∧ w.length = ds.length ∧
    lcM (gNm 3) tAll M_lw [3] ds [some (.lst p), some (.d (.int r)), some (.d (.int m)), none] = .ok (dints w) [some (.lst p'), some (.d (.int r)), some (.d (.int m)), none]
  | [], p, hp => ⟨[], p, hp, (fun _ h => nomatch h), rfl, rfl⟩
  | d :: ds, p, hp => by
    obtain ⟨i, p1, hp1, hi, e1⟩ := lw_elt (m := m) hp h1 h2 (some (.d d))
    obtain ⟨w, p2, hp2, hw, hl, e2⟩ := lw_list (m := m) h1 h2 ds p1 hp1
    refine ⟨i :: w, p2, hp2, fun j hj => (List.mem_cons.mp hj).elim (fun z => by rw [z]; exact hi) (hw j), by rw [List.length_cons, List.length_cons, hl], ?_⟩
    unfold lcM
    show (match M_lw [some (.lst p), some (.d (.int r)), some (.d (.int m)), some (.d d)] with
        | .ok s e2 => OL.cons s.view (lcM (gNm 3) tAll M_lw [3] ds (wipeE e2 [3]))
        | _ => OL.stuck) = _
    rw [e1]
    show OL.cons (S.d (.int i)).view (lcM (gNm 3) tAll M_lw [3] ds [some (.lst p1), some (.d (.int r)), some (.d (.int m)), none]) = _
    rw [e2]
    rfl
end G76

set_option maxHeartbeats 4000000
namespace G76
open PySem PySem.Spec PyProof.Rows L2 DL
open FG (Red red inv pw push stk)
theorem L4_of {r : Int} (h2 : r ≤ 4) {w : List Int} (h : ∀ i ∈ w, Let r i) : L4 w := fun i hi => let_up h2 (h i hi)
abbrev M_dr : FM := mFd 2 F__law_draw (arBw 0 (arFz (mPP (p2 gAdd (pName 2) (pCon (.int 1)))) arNil))
theorem word_ok {p : List D} (hp : Pot p) {r m : Int} (h1 : 1 ≤ r) (h2 : r ≤ 4) (m0 : 0 ≤ m) (m1 : m ≤ 60) : ∃ (w : List Int) (p' : List D), Pot p' ∧ Red w ∧ (∀ i ∈ w, Let r i) ∧ (w.length : Int) ≤ m ∧
    F__law_word [.lst p, .d (.int r), .d (.int m)] = .ok (.d (tw w)) [some (.lst p'), some (.d (.int r)), some (.d (.int m))] := by
  obtain ⟨k, p1, hp1, k0, k1, e1⟩ := draw_ok hp (m + 1) (by omega) (by omega)
  obtain ⟨w, p2, hp2, hw, hl, e2⟩ := lw_list (m := m) h1 h2 (rangeD 0 k.toNat) p1 hp1
  have hlen : w.length = k.toNat := by rw [hl]; simp [rangeD]
  have hl60 : w.length ≤ 60 := by omega
  refine ⟨red w, p2, hp2, FG.red_red w, fun i hi => hw i (FG.mem_red hi), ?_, ?_⟩
  · have := FG.red_len w
    omega
  · have a : M_dr [some (.lst p), some (.d (.int r)), some (.d (.int m)), none] = .ok (.d (.int k)) [some (.lst p1), some (.d (.int r)), some (.d (.int m)), none] := by
      simp [M_dr, e1]
    have i62k : i62 k = true := i62_small (by omega) (by omega)
    have c : mLcR [3] M_dr (gNm 3) tAll M_lw [some (.lst p), some (.d (.int r)), some (.d (.int m)), none] = .ok (.lst (dints w)) [some (.lst p2), some (.d (.int r)), some (.d (.int m)), none] := by
      unfold mLcR
      rw [a]
      show (if i62 k = true then mLc [3] (fun _ => some (rangeD 0 k.toNat, true)) (gNm 3) tAll M_lw [some (.lst p1), some (.d (.int r)), some (.d (.int m)), none] else .stuck) = _
      rw [if_pos i62k]
      unfold mLc
      show (match lcM (gNm 3) tAll M_lw [3] (rangeD 0 k.toNat) [some (.lst p1), some (.d (.int r)), some (.d (.int m)), none] with
        | .ok xs e' => if xs.length ≤ SZ then Out.ok (.lst xs) (unw [3] [some (.lst p1), some (.d (.int r)), some (.d (.int m)), none] e') else .stuck
        | _ => .stuck) = _
      rw [e2]
      show (if (dints w).length ≤ SZ then Out.ok (.lst (dints w)) _ else .stuck) = _
      rw [if_pos (by rw [dints_length]; exact Nat.le_trans hl60 (by decide))]
      rfl
    have d : mFd 1 F__law_reduced (arFz (mLcR [3] M_dr (gNm 3) tAll M_lw) arNil) [some (.lst p), some (.d (.int r)), some (.d (.int m)), none] = .ok (.d (tw (red w))) [some (.lst p2), some (.d (.int r)), some (.d (.int m)), none] := by
      have q := law_reduced_l (L4_of h2 hw) (by omega)
      simp only [mFd, arFz, c]
      simp [arNil, q]
    exact fn_rt (show B__law_word (enter 4 [.lst p, .d (.int r), .d (.int m)]) = .rt (.d (tw (red w))) [some (.lst p2), some (.d (.int r)), some (.d (.int m)), none] by
      unfold B__law_word sRet
      show ((mFd 1 F__law_reduced (arFz (mLcR [3] M_dr (gNm 3) tAll M_lw) arNil) [some (.lst p), some (.d (.int r)), some (.d (.int m)), none]).st fun s e1 => Fl.rt s e1) = _
      rw [d]
      rfl) rfl rfl
end G76

set_option maxHeartbeats 4000000
namespace G76
open PySem PySem.Spec PyProof.Rows L2 DL
open FG (Red red inv pw push stk)
/-! # images of words -/
/-- where a letter goes -/
def to1 (ws : List (List Int)) (i : Int) : List Int := if 0 < i then ws.getD (i - 1).toNat [] else inv (ws.getD (-i - 1).toNat [])
def img (ws : List (List Int)) (w : List Int) : List Int := red (w.map (to1 ws)).flatten
/-- letter by letter, reduced on the way -/
def imgs (ws : List (List Int)) : List Int → List Int → List Int
  | f, [] => f
  | f, i :: w => imgs ws (red (f ++ to1 ws i)) w
theorem imgs_eq (ws : List (List Int)) : ∀ (w f : List Int), red (imgs ws f w) = red (f ++ (w.map (to1 ws)).flatten)
  | [], f => by simp [imgs]
  | i :: w, f => by
    unfold imgs
    rw [imgs_eq ws w, List.map_cons, List.flatten_cons]
    have h := FG.red_cat_red (f ++ to1 ws i) (w.map (to1 ws)).flatten
    have g := FG.red_cat_red (red (f ++ to1 ws i)) (w.map (to1 ws)).flatten
    rw [FG.red_idem] at g
    rw [← List.append_assoc, ← h]
    exact g.symm
theorem imgs_red (ws : List (List Int)) : ∀ (w f : List Int), Red f → Red (imgs ws f w)
  | [], f, h => h
  | i :: w, f, _ => imgs_red ws w _ (FG.red_red _)
/-- both ways to the image are one -/
theorem imgs_img (ws : List (List Int)) (w : List Int) : imgs ws [] w = img ws w := by
  have h := imgs_eq ws w []
  rw [FG.red_self (imgs_red ws w [] trivial)] at h
  exact h
end G76

set_option maxHeartbeats 4000000
namespace G76
open PySem PySem.Spec PyProof.Rows L2 DL
open FG (Red red inv pw push stk)
theorem at_ws {ws : List (List Int)} {k : Int} (h0 : 0 ≤ k) (h1 : k < ws.length) : atI (ws.map tw) k = some (tw (ws.getD k.toNat [])) := by
  unfold atI ixN
  have hk : k.toNat < ws.length := by omega
  rw [if_pos h0, if_pos (by rw [List.length_map]; exact h1)]
  simp [hk]
theorem ix_ws {ws : List (List Int)} {k : Int} (h0 : 0 ≤ k) (h1 : k < ws.length) (hr : ws.length ≤ 4) : DL.gIx (.tup (ws.map tw)) (.int k) = some (.fz (tw (ws.getD k.toNat []))) := by
  show (atI (ws.map tw) k).map RV.fz = _
  rw [at_ws h0 h1]
  rfl
abbrev P_im : FP := pIf (tVal (p2 gGt (pName 3) (pCon (.int 0)))) (p2 DL.gIx (pName 2) (p2 DL.gSub (pName 3) (pCon (.int 1)))) (pFd F_undone_of (aCons (p2 DL.gIx (pName 2) (p2 DL.gSub (p1 gNeg (pName 3)) (pCon (.int 1)))) aNil))
theorem im_elt {ws : List (List Int)} {r i : Int} (hr : ws.length = r.toNat) (h1 : 1 ≤ r) (h2 : r ≤ 4) (hb : ∀ v ∈ ws, v.length ≤ 60) (hi : Let r i) (x y : Option S) :
    P_im [x, y, some (.d (.tup (ws.map tw))), some (.d (.int i))] = some (.fz (tw (to1 ws i))) := by
  have hl : (ws.length : Int) = r := by omega
  have hg : tVal (p2 gGt (pName 3) (pCon (.int 0))) [x, y, some (.d (.tup (ws.map tw))), some (.d (.int i))] = some (decide (i > 0)) := by
    simp
  unfold P_im pIf to1
  rw [hg]
  unfold Let at hi
  by_cases h : 0 < i
  · rw [decide_eq_true (show i > 0 from h), if_pos h]
    show p2 DL.gIx (pName 2) (p2 DL.gSub (pName 3) (pCon (.int 1))) [x, y, some (.d (.tup (ws.map tw))), some (.d (.int i))] = _
    exact (p2_ok (a := .fz (.tup (ws.map tw))) (b := .fz (.int (i - 1))) rfl rfl).trans (ix_ws (by omega) (by omega) (by omega))
  · rw [decide_eq_false (show ¬ i > 0 from h), if_neg h]
    have a : p2 DL.gIx (pName 2) (p2 DL.gSub (p1 gNeg (pName 3)) (pCon (.int 1))) [x, y, some (.d (.tup (ws.map tw))), some (.d (.int i))] = some (.fz (tw (ws.getD (-i - 1).toNat []))) :=
      (p2_ok (a := .fz (.tup (ws.map tw))) (b := .fz (.int (-i - 1))) rfl rfl).trans (ix_ws (by omega) (by omega) (by omega))
    have hv : (ws.getD (-i - 1).toNat []).length ≤ 100000 := by
      have hk : (-i - 1).toNat < ws.length := by omega
      have : ws.getD (-i - 1).toNat [] ∈ ws := by
        rw [List.getD_eq_getElem?_getD, List.getElem?_eq_getElem hk]
        exact List.getElem_mem hk
      exact Nat.le_trans (hb _ this) (by decide)
    exact (pFd_ok (aCons_ok (rs := []) a rfl)).trans (callP_fz (undone_of_ok hv) (Or.inl rfl))
theorem im_list {ws : List (List Int)} {r : Int} (hr : ws.length = r.toNat) (h1 : 1 ≤ r) (h2 : r ≤ 4) (hb : ∀ v ∈ ws, v.length ≤ 60) (x y t : Option S) : ∀ w : List Int, (∀ i ∈ w, Let r i) →
    lcL (gNm 3) tAll P_im [x, y, some (.d (.tup (ws.map tw))), t] (dints w) = some ((w.map (to1 ws)).map tw)
  | [], _ => rfl
  | i :: w, h => by
    rw [dints_cons]
    unfold lcL
    show ((P_im [x, y, some (.d (.tup (ws.map tw))), some (.d (.int i))]).bind fun r => r.item.bind fun z => (lcL (gNm 3) tAll P_im [x, y, some (.d (.tup (ws.map tw))), t] (dints w)).map fun xs => z :: xs) = _
    rw [im_list hr h1 h2 hb x y t w fun j hj => h j (List.mem_cons_of_mem _ hj), im_elt hr h1 h2 hb (h i List.mem_cons_self)]
    rfl
end G76

set_option maxHeartbeats 4000000
namespace G76
open PySem PySem.Spec PyProof.Rows L2 DL
open FG (Red red inv pw push stk)
/-- images as data -/
def im (r o : Int) (ws : List (List Int)) : D := .tup [.str "images", .int r, .int o, .tup (ws.map tw)]
theorem to1_len {ws : List (List Int)} (hb : ∀ v ∈ ws, v.length ≤ 60) (i : Int) : (to1 ws i).length ≤ 60 := by
  have g : ∀ k, (ws.getD k []).length ≤ 60 := fun k => by
    by_cases hk : k < ws.length
    · have : ws.getD k [] ∈ ws := by
        rw [List.getD_eq_getElem?_getD, List.getElem?_eq_getElem hk]
        exact List.getElem_mem hk
      exact hb _ this
    · rw [List.getD_eq_getElem?_getD, List.getElem?_eq_none (by omega)]
      exact Nat.zero_le _
  unfold to1
  split
  · exact g _
  · rw [FG.inv_length]
    exact g _
theorem to1_l4 {ws : List (List Int)} (hw : ∀ v ∈ ws, L4 v) (i : Int) : L4 (to1 ws i) := by
  have g : ∀ k, L4 (ws.getD k []) := fun k => by
    by_cases hk : k < ws.length
    · have : ws.getD k [] ∈ ws := by
        rw [List.getD_eq_getElem?_getD, List.getElem?_eq_getElem hk]
        exact List.getElem_mem hk
      exact hw _ this
    · rw [List.getD_eq_getElem?_getD, List.getElem?_eq_none (by omega)]
      exact L4.nil
  unfold to1
  split
  · exact g _
  · exact L4.inv (g _)
theorem flat_len {ws : List (List Int)} (hb : ∀ v ∈ ws, v.length ≤ 60) : ∀ w : List Int, ((w.map (to1 ws)).flatten).length ≤ 60 * w.length
  | [] => Nat.zero_le _
  | i :: w => by
    rw [List.map_cons, List.flatten_cons, List.length_append, List.length_cons]
    have := flat_len hb w
    have := to1_len hb i
    omega
theorem flat_l4 {ws : List (List Int)} (hw : ∀ v ∈ ws, L4 v) : ∀ w : List Int, L4 ((w.map (to1 ws)).flatten)
  | [] => L4.nil
  | i :: w => by
    rw [List.map_cons, List.flatten_cons]
    exact L4.app (to1_l4 hw i) (flat_l4 hw w)
theorem image_of_ok {ws : List (List Int)} {r o : Int} (hr : ws.length = r.toNat) (h1 : 1 ≤ r) (h2 : r ≤ 4) (hb : ∀ v ∈ ws, v.length ≤ 60) (hw4 : ∀ v ∈ ws, L4 v) {w : List Int} (hw : ∀ i ∈ w, Let r i) (hl : w.length ≤ 300) :
    F_image_of [.d (im r o ws), .d (tw w)] = .ok (.d (tw (img ws w))) [some (.d (im r o ws)), some (.d (tw w))] := by
  have a : sSet 2 (mPP (p2 DL.gIx (pName 0) (pCon (.int 3)))) [some (.d (im r o ws)), some (.d (tw w)), none, none] = .nx [some (.d (im r o ws)), some (.d (tw w)), some (.d (.tup (ws.map tw))), none] :=
    set_fz ((p2_ok (a := .fz (im r o ws)) (b := .fz (.int 3)) rfl rfl).trans rfl) (by show 2 < 4; decide)
  have l := im_list hr h1 h2 hb (some (.d (im r o ws))) (some (.d (tw w))) none w hw
  have c : pLc [3] (iSeq (pName 1)) (gNm 3) tAll P_im [some (.d (im r o ws)), some (.d (tw w)), some (.d (.tup (ws.map tw))), none] = some (.fr ((w.map (to1 ws)).map tw)) := by
    refine pLc_ok (ds := dints w) (b := true) rfl (show lcL (gNm 3) tAll P_im [some (.d (im r o ws)), some (.d (tw w)), some (.d (.tup (ws.map tw))), none] (dints w) = _ from l) ?_
    rw [List.length_map, List.length_map]
    exact Nat.le_trans hl (by decide)
  have fl : ((w.map (to1 ws)).flatten).length < 100000 := by
    have := flat_len hb w
    omega
  have q : pFd F_put_together (aCons (pLc [3] (iSeq (pName 1)) (gNm 3) tAll P_im) aNil) [some (.d (im r o ws)), some (.d (tw w)), some (.d (.tup (ws.map tw))), none] = some (.fz (tw (img ws w))) :=
    (pFd_ok (aCons_ok (rs := []) c rfl)).trans (callP_fz (put_together_ok (flat_l4 hw4 w) fl) (Or.inl rfl))
  exact fn_rt (show B_image_of (enter 4 [.d (im r o ws), .d (tw w)]) = .rt (.d (tw (img ws w))) [some (.d (im r o ws)), some (.d (tw w)), some (.d (.tup (ws.map tw))), none] from (seq_nx a).trans (ret_fz q)) rfl rfl
end G76

set_option maxHeartbeats 4000000
namespace G76
open PySem PySem.Spec PyProof.Rows L2 DL
open FG (Red red inv pw push stk)
abbrev P_li : FP := pFd F__law_reduced (aCons (p2 DL.gAdd (pName 2) (pIf (tVal (p2 gGt (pName 3) (pCon (.int 0)))) (pName 4) (pFd F__law_undone (aCons (pName 4) aNil)))) aNil)
abbrev B_li : FS := sSeq (sSet 4 (mPP (p2 DL.gIx (p2 DL.gIx (pName 0) (pCon (.int 3))) (p2 DL.gSub (pCa gAbs (aCons (pName 3) aNil)) (pCon (.int 1)))))) (sSet 2 (mPP P_li))
theorem B_li_eq : B__law_image = sSeq (sSet 2 (mPP (pTup aNil))) (sSeq (sFor (iSeq (pName 1)) (gNm 3) B_li) (sRet (mPP (pName 2)))) := rfl
def one (ws : List (List Int)) (i : Int) : List Int := ws.getD ((if i < 0 then -i else i) - 1).toNat []
theorem li_one {ws : List (List Int)} {r o i : Int} (hr : ws.length = r.toNat) (h1 : 1 ≤ r) (h2 : r ≤ 4) (hi : Let r i) (x y z : Option S) :
    sSet 4 (mPP (p2 DL.gIx (p2 DL.gIx (pName 0) (pCon (.int 3))) (p2 DL.gSub (pCa gAbs (aCons (pName 3) aNil)) (pCon (.int 1))))) [some (.d (im r o ws)), x, y, some (.d (.int i)), z] = .nx [some (.d (im r o ws)), x, y, some (.d (.int i)), some (.d (tw (one ws i)))] := by
  unfold Let at hi
  have hk : (if i < 0 then -i else i) - 1 < ws.length ∧ 0 ≤ (if i < 0 then -i else i) - 1 := by split <;> omega
  have a : p2 DL.gIx (pName 0) (pCon (.int 3)) [some (.d (im r o ws)), x, y, some (.d (.int i)), z] = some (.fz (.tup (ws.map tw))) := (p2_ok (a := .fz (im r o ws)) (b := .fz (.int 3)) rfl rfl).trans rfl
  have b : p2 DL.gSub (pCa gAbs (aCons (pName 3) aNil)) (pCon (.int 1)) [some (.d (im r o ws)), x, y, some (.d (.int i)), z] = some (.fz (.int ((if i < 0 then -i else i) - 1))) := by simp
  exact set_fz ((p2_ok a b).trans (ix_ws hk.2 hk.1 (by omega))) (by show 4 < 5; decide)
end G76

set_option maxHeartbeats 4000000
namespace G76
open PySem PySem.Spec PyProof.Rows L2 DL
open FG (Red red inv pw push stk)
/-! # _law_image -/
theorem one_to1 (ws : List (List Int)) (i : Int) : to1 ws i = if 0 < i then one ws i else inv (one ws i) := by
  unfold to1 one
  by_cases h : 0 < i
  · rw [if_pos h, if_pos h, if_neg (by omega)]
  · rw [if_neg h, if_neg h]
    by_cases q : i < 0
    · rw [if_pos q]
    · rw [if_neg q, show i = 0 by omega]
      rfl
theorem one_len {ws : List (List Int)} (hb : ∀ v ∈ ws, v.length ≤ 60) (i : Int) : (one ws i).length ≤ 60 := by
  have h := to1_len hb i
  rw [one_to1] at h
  split at h
  · exact h
  · rwa [FG.inv_length] at h
theorem gAdd_big (u v : List Int) (h : u.length + v.length ≤ 60000) : DL.gAdd (tw u) (tw v) = some (.fz (tw (u ++ v))) := by
  have l : (dints u).length + (dints v).length ≤ SZ := by rw [dints_length, dints_length]; unfold SZ; omega
  refine (show DL.gAdd (tw u) (tw v) = some (.fz (.tup (dints u ++ dints v))) from if_pos l).trans ?_
  rw [← dints_append]
theorem li_red {ws : List (List Int)} (hb : ∀ v ∈ ws, v.length ≤ 60) (hw4 : ∀ v ∈ ws, L4 v) {f : List Int} (hf : L4 f) (hl : f.length ≤ 50000) (i : Int) (x y : Option S) :
    P_li [x, y, some (.d (tw f)), some (.d (.int i)), some (.d (tw (one ws i)))] = some (.fz (tw (red (f ++ to1 ws i)))) := by
  have tl := to1_len hb i
  have ol := one_len hb i
  have c : pIf (tVal (p2 gGt (pName 3) (pCon (.int 0)))) (pName 4) (pFd F__law_undone (aCons (pName 4) aNil)) [x, y, some (.d (tw f)), some (.d (.int i)), some (.d (tw (one ws i)))] = some (.fz (tw (to1 ws i))) := by
    have hg : tVal (p2 gGt (pName 3) (pCon (.int 0))) [x, y, some (.d (tw f)), some (.d (.int i)), some (.d (tw (one ws i)))] = some (decide (i > 0)) := by simp
    unfold pIf
    rw [hg]
    by_cases h : i > 0
    · rw [decide_eq_true h, one_to1, if_pos h]
      rfl
    · rw [decide_eq_false h, one_to1, if_neg h]
      exact call1 (fa := pName 4) (a := tw (one ws i)) (e := [x, y, some (.d (tw f)), some (.d (.int i)), some (.d (tw (one ws i)))]) rfl (law_undone_ok (by omega))
  have a : p2 DL.gAdd (pName 2) (pIf (tVal (p2 gGt (pName 3) (pCon (.int 0)))) (pName 4) (pFd F__law_undone (aCons (pName 4) aNil))) [x, y, some (.d (tw f)), some (.d (.int i)), some (.d (tw (one ws i)))] = some (.fz (tw (f ++ to1 ws i))) :=
    (p2_ok (a := .fz (tw f)) rfl c).trans (gAdd_big f _ (by omega))
  exact call1 a (law_reduced_t (hf.app (to1_l4 hw4 i)) (by rw [List.length_append]; omega))
theorem li_loop {ws : List (List Int)} {r o : Int} (hr : ws.length = r.toNat) (h1 : 1 ≤ r) (h2 : r ≤ 4) (hb : ∀ v ∈ ws, v.length ≤ 60) (hw4 : ∀ v ∈ ws, L4 v) (y : Option S) : ∀ (w f : List Int) (x3 z : Option S), (∀ i ∈ w, Let r i) → L4 f → f.length + 60 * w.length ≤ 50000 →
    ∃ x3' z', forL (gNm 3) B_li (dints w) [some (.d (im r o ws)), y, some (.d (tw f)), x3, z] = .nx [some (.d (im r o ws)), y, some (.d (tw (imgs ws f w))), x3', z']
  | [], f, x3, z, _, _, _ => ⟨x3, z, rfl⟩
  | i :: w, f, x3, z, hw, hf, hl => by
    rw [List.length_cons] at hl
    have hi := hw i List.mem_cons_self
    have rl := FG.red_len (f ++ to1 ws i)
    have tl := to1_len hb i
    rw [List.length_append] at rl
    obtain ⟨x3', z', ih⟩ := li_loop hr h1 h2 hb hw4 y w (red (f ++ to1 ws i)) (some (.d (.int i))) (some (.d (tw (one ws i)))) (fun j hj => hw j (List.mem_cons_of_mem _ hj)) (hf.app (to1_l4 hw4 i)).red (by omega)
    refine ⟨x3', z', ?_⟩
    rw [dints_cons]
    have s1 : B_li [some (.d (im r o ws)), y, some (.d (tw f)), some (.d (.int i)), z] = .nx [some (.d (im r o ws)), y, some (.d (tw (red (f ++ to1 ws i)))), some (.d (.int i)), some (.d (tw (one ws i)))] :=
      (seq_nx (li_one hr h1 h2 hi y (some (.d (tw f))) z)).trans (set_fz (li_red hb hw4 hf (by omega) i _ _) (by show 2 < 5; decide))
    exact (forL_nx (show gNm 3 (.int i) [some (.d (im r o ws)), y, some (.d (tw f)), x3, z] = some [some (.d (im r o ws)), y, some (.d (tw f)), some (.d (.int i)), z] from rfl) s1).trans ih
theorem law_image_ok {ws : List (List Int)} {r o : Int} (hr : ws.length = r.toNat) (h1 : 1 ≤ r) (h2 : r ≤ 4) (hb : ∀ v ∈ ws, v.length ≤ 60) (hw4 : ∀ v ∈ ws, L4 v) {w : List Int} (hw : ∀ i ∈ w, Let r i) (hl : w.length ≤ 300) :
    F__law_image [.d (im r o ws), .d (tw w)] = .ok (.d (tw (img ws w))) [some (.d (im r o ws)), some (.d (tw w))] := by
  have a : sSet 2 (mPP (pTup aNil)) [some (.d (im r o ws)), some (.d (tw w)), none, none, none] = .nx [some (.d (im r o ws)), some (.d (tw w)), some (.d (tw [])), none, none] :=
    set_fz (x := tw []) (pTup_ok (rs := []) rfl rfl (by decide)) (by show 2 < 5; decide)
  obtain ⟨x3, z, e⟩ := li_loop (o := o) hr h1 h2 hb hw4 (some (.d (tw w))) w [] none none hw L4.nil (by rw [List.length_nil]; omega)
  rw [imgs_img] at e
  have f : sFor (iSeq (pName 1)) (gNm 3) B_li [some (.d (im r o ws)), some (.d (tw w)), some (.d (tw [])), none, none] = .nx [some (.d (im r o ws)), some (.d (tw w)), some (.d (tw (img ws w))), x3, z] := e
  exact fn_rt (show B__law_image (enter 5 [.d (im r o ws), .d (tw w)]) = .rt (.d (tw (img ws w))) [some (.d (im r o ws)), some (.d (tw w)), some (.d (tw (img ws w))), x3, z] from (seq_nx a).trans ((seq_nx f).trans (ret_fz rfl))) rfl rfl
end G76

set_option maxHeartbeats 4000000
namespace G76
open PySem PySem.Spec PyProof.Rows L2 DL
open FG (Red red inv pw push stk)
/-! # images that are looked at -/
theorem mem_sum : ∀ {ws : List (List Int)} {u : List Int}, u ∈ ws → u.length ≤ (ws.map List.length).sum
  | w :: ws, u, h => by
    rw [List.map_cons, List.sum_cons]
    rcases List.mem_cons.mp h with rfl | h
    · omega
    · have := mem_sum h
      omega
structure VI (r : Int) (ws : List (List Int)) : Prop where
  r1 : 1 ≤ r
  r2 : r ≤ 4
  len : ws.length = r.toNat
  wd : ∀ v ∈ ws, GW r v
  tot : (ws.map List.length).sum ≤ 48
theorem VI.le {r : Int} {ws : List (List Int)} (v : VI r ws) : ∀ u ∈ ws, u.length ≤ 60 := fun u hu => by
  have := mem_sum hu
  have := v.tot
  omega
theorem VI.l4 {r : Int} {ws : List (List Int)} (v : VI r ws) : ∀ u ∈ ws, L4 u := fun u hu => gw4 v.r2 (v.wd u hu)
def tot (us : List (List Int)) : Nat := (us.map List.length).sum
def lens (us : List (List Int)) : List Int := us.map fun w => (w.length : Int)
theorem lens_sum : ∀ us : List (List Int), (lens us).sum = (tot us : Nat)
  | [] => rfl
  | w :: us => by
    have := lens_sum us
    unfold lens tot at *
    rw [List.map_cons, List.sum_cons, this, List.map_cons, List.sum_cons]
    omega
theorem dints_lens (us : List (List Int)) : dints (lens us) = us.map fun w => D.int (w.length : Int) := by
  unfold lens dints
  rw [List.map_map]
  rfl
theorem lens_ok {e : En} {fi : FI} {i : Nat} {us : List (List Int)} {b : Bool} (hs : fi e = some (us.map tw, b)) (hi : i < (wipeE e [i]).length) (hz : us.length ≤ 1000) :
    pLc [i] fi (gNm i) tAll (pCa gLen (aCons (pName i) aNil)) e = some (.fr (dints (lens us))) := by
  refine pLc_fr hs ?_ ?_
  · rw [dints_lens]
    exact lcI_all hi us fun w _ => ⟨_, len_tw (w := w) (List.getElem?_set_self hi), rfl⟩
  · rw [dints_length]
    unfold lens
    rw [List.length_map]
    exact hz
theorem sum_ok {e : En} {fi : FI} {i : Nat} {us : List (List Int)} {b : Bool} (hs : fi e = some (us.map tw, b)) (hi : i < (wipeE e [i]).length) (hz : us.length ≤ 1000) :
    pCa gSum (aCons (pLc [i] fi (gNm i) tAll (pCa gLen (aCons (pName i) aNil))) aNil) e = some (.fz (.int (tot us : Nat))) := by
  refine (pCa_ok (aCons_ok (rs := []) (lens_ok hs hi hz) rfl)).trans ?_
  show (ints? (dints (lens us))).map (fun bs => RV.fz (.int bs.sum)) = _
  rw [ints_dints, ← lens_sum]
  rfl
theorem max_ok {e : En} {fi : FI} {i : Nat} {us : List (List Int)} {b : Bool} (hs : fi e = some (us.map tw, b)) (hi : i < (wipeE e [i]).length) (hz : us.length ≤ 1000) (h0 : 0 < us.length) :
    pCa gMaxL (aCons (pLc [i] fi (gNm i) tAll (pCa gLen (aCons (pName i) aNil))) aNil) e = some (.fz (.int (maxI (lens us)))) := by
  refine (pCa_ok (aCons_ok (rs := []) (lens_ok hs hi hz) rfl)).trans ?_
  show (ints? (dints (lens us))).bind (fun ns => if 0 < ns.length then some (RV.fz (.int (maxI ns))) else none) = _
  rw [ints_dints]
  exact if_pos (by unfold lens; rw [List.length_map]; exact h0)
theorem max_gt {us : List (List Int)} (h0 : 0 < us.length) : maxI (lens us) > 60 ↔ ∃ w ∈ us, 60 < w.length := by
  obtain ⟨h1, h2⟩ := maxI_ok (ns := lens us) (by unfold lens; rw [List.length_map]; exact h0)
  constructor
  · intro h
    obtain ⟨w, hw, e⟩ := List.mem_map.mp h1
    exact ⟨w, hw, by omega⟩
  · rintro ⟨w, hw, h⟩
    have := h2 (w.length : Int) (List.mem_map.mpr ⟨w, hw, rfl⟩)
    omega
abbrev P_io : FP := pAnd (pFd F_is_integer (aCons (pName 4) aNil)) (pChain gLe gLe (pCon (.int 1)) (pName 4) (pCon (.int 4)))
abbrev T_i3 : FT := DL.tOr (tNot (tVal (pIsi .tuple (pName 3)))) (DL.tOr (tVal (p2 gNe (pCa gLen (aCons (pName 3) aNil)) (pName 1))) (tNot (tVal (pCa gAll (aCons (pLc [5] (iSeq (pName 3)) (gNm 5) tAll (pFd F_is_word (aCons (pName 2) (aCons (pName 5) aNil)))) aNil)))))
theorem iv_ok {r : Int} {ws : List (List Int)} (v : VI r ws) : F_is_images_value [.d (im r r ws)] = .ok (.d (.bl true)) [some (.d (im r r ws))] := by
  have hl : (ws.length : Int) = r := by have := v.len; have := v.r1; omega
  have r1 := v.r1
  have r2 := v.r2
  have c1 : (DL.tOr (tNot (tVal (pIsi .tuple (pName 0)))) (DL.tOr (tVal (p2 gNe (pCa gLen (aCons (pName 0) aNil)) (pCon (.int 4)))) (DL.tOr (tNot (tVal (pIsi .str (p2 DL.gIx (pName 0) (pCon (.int 0)))))) (tVal (p2 gNe (p2 DL.gIx (pName 0) (pCon (.int 0))) (pCon (.str "images"))))))) [some (.d (im r r ws)), none, none, none, none, none] = some false := by
    refine tOr_ok (a := false) (b := false) rfl fun _ => tOr_ok (a := false) (b := false) (tVal_ok ?_) fun _ => tOr_ok (a := false) (b := false) rfl fun _ => tVal_ok ?_
    · exact (p2_ok (a := .fz (.int 4)) (b := .fz (.int 4)) rfl rfl).trans (ne_same (x := .int 4) (by decide) (by decide))
    · exact (p2_ok (a := .fz (.str "images")) (b := .fz (.str "images")) rfl rfl).trans (ne_same (x := .str "images") (by decide +kernel) (by decide))
  have a1 : sAsg (mPP (pSl (pName 0) (oSome (pCon (.int 1))) oNone)) (gTp 3 (gsCons (gNm 1) (gsCons (gNm 2) (gsCons (gNm 3) gsNil)))) [some (.d (im r r ws)), none, none, none, none, none] = .nx [some (.d (im r r ws)), some (.d (.int r)), some (.d (.int r)), some (.d (.tup (ws.map tw))), none, none] := by
    rfl
  have c2 : tNot (tVal (pCa gAll (aCons (pLc [4] (iSeq (pTup (aCons (pName 1) (aCons (pName 2) aNil)))) (gNm 4) tAll P_io) aNil))) [some (.d (im r r ws)), some (.d (.int r)), some (.d (.int r)), some (.d (.tup (ws.map tw))), none, none] = some false := by
    refine tNot_ok (b := true) (allT_ok (ds := [.int r, .int r]) (b := true) rfl (by show 2 ≤ 10000; omega) fun d hd => ?_)
    have : d = .int r := by simpa using hd
    subst this
    exact ⟨_, rfl, pAnd_ok (a := true) (b := true) (call1 rfl (is_integer_int r)) fun _ => by simp [r1, r2]⟩
  have c3 : T_i3 [some (.d (im r r ws)), some (.d (.int r)), some (.d (.int r)), some (.d (.tup (ws.map tw))), none, none] = some false := by
    refine tOr_ok (a := false) (b := false) rfl fun _ => tOr_ok (a := false) (b := false) (tVal_ok ?_) fun _ => tNot_ok (b := true) (allT_ok (ds := ws.map tw) (b := true) rfl ?_ fun d hd => ?_)
    · refine (p2_ok (a := .fz (.int ((ws.map tw).length : Nat))) (b := .fz (.int r)) rfl rfl).trans ?_
      rw [List.length_map]
      refine (gNe_int (by omega) (by omega)).trans ?_
      rw [decide_eq_true hl]
      rfl
    · rw [List.length_map]
      omega
    · obtain ⟨u, hu, rfl⟩ := List.mem_map.mp hd
      have ul := v.le u hu
      refine ⟨_, rfl, ?_⟩
      have h := call2 (fa := pName 2) (fb := pName 5) (e := [some (.d (im r r ws)), some (.d (.int r)), some (.d (.int r)), some (.d (.tup (ws.map tw))), none, some (.d (tw u))]) rfl rfl (is_word_ok r u (v.l4 u hu) (by omega))
      rw [gw_wordB (v.wd u hu) ul] at h
      exact h
  have rt : sRet (mPP (p2 gLe (pCa gSum (aCons (pLc [5] (iSeq (pName 3)) (gNm 5) tAll (pCa gLen (aCons (pName 5) aNil))) aNil)) (pCon (.int 48)))) [some (.d (im r r ws)), some (.d (.int r)), some (.d (.int r)), some (.d (.tup (ws.map tw))), none, none] = .rt (.d (.bl true)) [some (.d (im r r ws)), some (.d (.int r)), some (.d (.int r)), some (.d (.tup (ws.map tw))), none, none] := by
    refine ret_fz ((p2_ok (b := .fz (.int 48)) (sum_ok (us := ws) (b := true) rfl (by show 5 < 6; omega) (by omega)) rfl).trans ?_)
    show some (RV.fz (.bl (decide (((tot ws : Nat) : Int) ≤ 48)))) = _
    rw [decide_eq_true (show ((tot ws : Nat) : Int) ≤ 48 from by have := v.tot; unfold tot; omega)]
  exact fn_rt (show B_is_images_value (enter 6 [.d (im r r ws)]) = .rt (.d (.bl true)) [some (.d (im r r ws)), some (.d (.int r)), some (.d (.int r)), some (.d (.tup (ws.map tw))), none, none] from
    (seq_nx (ckF c1)).trans ((seq_nx a1).trans ((seq_nx (ckF c2)).trans ((seq_nx (ckF c3)).trans rt)))) rfl rfl
theorem wi_ok {r : Int} {ws : List (List Int)} (v : VI r ws) : F_want_images [.d (im r r ws)] = .ok (.d .non) [some (.d (im r r ws))] := by
  have c : B_want_images [some (.d (im r r ws))] = .nx [some (.d (im r r ws))] := if_f (tNot_ok (b := true) (tVal_ok (call1 rfl (iv_ok v))))
  unfold F_want_images fnF
  rw [show enter 1 [.d (im r r ws)] = [some (.d (im r r ws))] from rfl, c]
  rfl
theorem wr_ok {r : Int} {ws : List (List Int)} (v : VI r ws) : F_want_own_rank [.d (im r r ws)] = .ok (.d .non) [some (.d (im r r ws))] := by
  have r1 := v.r1
  have r2 := v.r2
  have c2 : sIf (tMT (tVal (p2 gNe (p2 DL.gIx (pName 0) (pCon (.int 1))) (p2 DL.gIx (pName 0) (pCon (.int 2)))))) sStuck sNil [some (.d (im r r ws))] = .nx [some (.d (im r r ws))] := by
    refine if_f (tVal_ok ((p2_ok (a := .fz (.int r)) (b := .fz (.int r)) rfl rfl).trans ((gNe_int (by omega) (by omega)).trans ?_)))
    rw [decide_eq_true rfl]
    rfl
  have c : B_want_own_rank [some (.d (im r r ws))] = .nx [some (.d (im r r ws))] := (seq_nx (expr_fz (call1 rfl (wi_ok v)))).trans c2
  unfold F_want_own_rank fnF
  rw [show enter 1 [.d (im r r ws)] = [some (.d (im r r ws))] from rfl, c]
  rfl
end G76

set_option maxHeartbeats 4000000
namespace G76
open PySem PySem.Spec PyProof.Rows L2 DL
open FG (Red red inv pw push stk)
/-! # all words led once more -/
def stp (ws us : List (List Int)) : List (List Int) := us.map (img ws)
def idz (r : Int) : List (List Int) := if r = 1 then [[1]] else if r = 2 then [[1], [2]] else if r = 3 then [[1], [2], [3]] else [[1], [2], [3], [4]]
def Ok (r : Int) (us : List (List Int)) : Prop := us.length = r.toNat ∧ ∀ w ∈ us, ∀ i ∈ w, Let r i
def Sm (us : List (List Int)) : Prop := ∀ w ∈ us, w.length ≤ 300
theorem VI.ok {r : Int} {ws : List (List Int)} (v : VI r ws) : Ok r ws := ⟨v.len, fun w hw => (v.wd w hw).2⟩
theorem VI.sm {r : Int} {ws : List (List Int)} (v : VI r ws) : Sm ws := fun w hw => Nat.le_trans (v.le w hw) (by decide)
theorem to1_gw {r : Int} {ws : List (List Int)} (v : VI r ws) (i : Int) : GW r (to1 ws i) := by
  have g : ∀ k, GW r (ws.getD k []) := fun k => by
    by_cases hk : k < ws.length
    · have : ws.getD k [] ∈ ws := by
        rw [List.getD_eq_getElem?_getD, List.getElem?_eq_getElem hk]
        exact List.getElem_mem hk
      exact v.wd _ this
    · rw [List.getD_eq_getElem?_getD, List.getElem?_eq_none (by omega)]
      exact ⟨trivial, fun _ h => nomatch h⟩
  unfold to1
  split
  · exact g _
  · exact gw_inv (g _)
theorem img_let {r : Int} {ws : List (List Int)} (v : VI r ws) (w : List Int) : ∀ i ∈ img ws w, Let r i := fun i hi => by
  obtain ⟨l, hl, h⟩ := List.mem_flatten.mp (FG.mem_red hi)
  obtain ⟨j, hj, rfl⟩ := List.mem_map.mp hl
  exact (to1_gw v j).2 i h
theorem stp_ok {r : Int} {ws us : List (List Int)} (v : VI r ws) (ok : Ok r us) : Ok r (stp ws us) := by
  refine ⟨by unfold stp; rw [List.length_map]; exact ok.1, fun w hw => ?_⟩
  obtain ⟨u, hu, rfl⟩ := List.mem_map.mp hw
  exact img_let v u
/-- a def that tells images of words -/
def Fim (F : List S → Out) : Prop := ∀ {r : Int} {ws : List (List Int)} {w : List Int}, VI r ws → (∀ i ∈ w, Let r i) → w.length ≤ 300 → F [.d (im r r ws), .d (tw w)] = .ok (.d (tw (img ws w))) [some (.d (im r r ws)), some (.d (tw w))]
theorem fim_l : Fim F__law_image := fun v hw hl => law_image_ok v.len v.r1 v.r2 v.le v.l4 hw hl
theorem fim_p : Fim F_image_of := fun v hw hl => image_of_ok v.len v.r1 v.r2 v.le v.l4 hw hl
theorem tup_step {F : List S → Out} (hF : Fim F) {r : Int} {ws us : List (List Int)} (v : VI r ws) (ok : Ok r us) (sm : Sm us) {e : En} {k j : Nat} {fi : FI} {b : Bool} (hs : fi e = some (us.map tw, b))
    (hk : ∀ d, ((wipeE e [j]).set j (some (.d d)))[k]? = some (some (.d (im r r ws)))) (hj : j < (wipeE e [j]).length) :
    pCa gTuple (aCons (pLc [j] fi (gNm j) tAll (pFd F (aCons (pName k) (aCons (pName j) aNil)))) aNil) e = some (.fz (.tup ((stp ws us).map tw))) := by
  have l : pLc [j] fi (gNm j) tAll (pFd F (aCons (pName k) (aCons (pName j) aNil))) e = some (.fr ((stp ws us).map tw)) := by
    refine pLc_fr hs ?_ ?_
    · rw [show (stp ws us).map tw = us.map fun w => tw (img ws w) by unfold stp; rw [List.map_map]; rfl]
      exact lcI_all hj us fun w hw => ⟨_, call2 (pN (hk _)) (pN (List.getElem?_set_self hj)) (hF v (ok.2 w hw) (sm w hw)), rfl⟩
    · unfold stp
      rw [List.length_map, List.length_map, ok.1]
      have := v.r2
      omega
  exact (pCa_ok (aCons_ok (rs := []) l rfl)).trans rfl
theorem r_cases {r : Int} (h1 : 1 ≤ r) (h2 : r ≤ 4) : r = 1 ∨ r = 2 ∨ r = 3 ∨ r = 4 := by omega
theorem idz_ok {r : Int} (h1 : 1 ≤ r) (h2 : r ≤ 4) : Ok r (idz r) ∧ Sm (idz r) ∧ 0 < (idz r).length := by
  rcases r_cases h1 h2 with rfl | rfl | rfl | rfl <;> refine ⟨⟨rfl, ?_⟩, ?_, by decide⟩ <;> intro w hw <;> simp [idz] at hw
  · subst hw; intro i hi; simp at hi; subst hi; unfold Let; omega
  · subst hw; decide
  · rcases hw with rfl | rfl <;> intro i hi <;> simp at hi <;> subst hi <;> unfold Let <;> omega
  · rcases hw with rfl | rfl <;> decide
  · rcases hw with rfl | rfl | rfl <;> intro i hi <;> simp at hi <;> subst hi <;> unfold Let <;> omega
  · rcases hw with rfl | rfl | rfl <;> decide
  · rcases hw with rfl | rfl | rfl | rfl <;> intro i hi <;> simp at hi <;> subst hi <;> unfold Let <;> omega
  · rcases hw with rfl | rfl | rfl | rfl <;> decide
theorem lai_ok {r : Int} (h1 : 1 ≤ r) (h2 : r ≤ 4) : F_letters_as_images [.d (.int r)] = .ok (.d (im r r (idz r))) [some (.d (.int r))] := by
  rcases r_cases h1 h2 with rfl | rfl | rfl | rfl <;> rfl
/-- the letters themselves, as the law tells them -/
theorem ids_ok {r : Int} (h1 : 1 ≤ r) (h2 : r ≤ 4) (ws : List (List Int)) (x1 x2 x3 x4 x5 : Option S) :
    pCa gTuple (aCons (pLc [4] (iRg2 (aCons (pCon (.int 1)) (aCons (p2 DL.gAdd (p2 DL.gIx (pName 0) (pCon (.int 1))) (pCon (.int 1))) aNil))) (gNm 4) tAll (pTup (aCons (pName 4) aNil))) aNil) [some (.d (im r r ws)), x1, x2, x3, x4, x5] = some (.fz (.tup ((idz r).map tw))) := by
  rcases r_cases h1 h2 with rfl | rfl | rfl | rfl <;> rfl
/-! ### one image of a letter is the word -/
theorem img_one {r : Int} {ws : List (List Int)} (v : VI r ws) {k : Nat} (hk : k < ws.length) : img ws [(k : Int) + 1] = ws.getD k [] := by
  unfold img to1
  rw [List.map_cons, List.map_nil, List.flatten_cons, List.flatten_nil, List.append_nil, if_pos (by omega), show ((k : Int) + 1 - 1).toNat = k by omega]
  refine FG.red_self (v.wd _ ?_).1
  rw [List.getD_eq_getElem?_getD, List.getElem?_eq_getElem hk]
  exact List.getElem_mem hk
theorem stp_ids {r : Int} {ws : List (List Int)} (v : VI r ws) : stp ws (idz r) = ws := by
  have l := v.len
  have e : stp ws (idz r) = (List.range r.toNat).map fun k => ws.getD k [] := by
    have q : idz r = (List.range r.toNat).map fun (k : Nat) => [(k : Int) + 1] := by
      rcases r_cases v.r1 v.r2 with rfl | rfl | rfl | rfl <;> rfl
    unfold stp
    rw [q, List.map_map]
    refine List.map_congr_left fun k hk => ?_
    exact img_one v (by rw [l]; exact List.mem_range.mp hk)
  rw [e, ← l]
  refine List.ext_getElem (by simp) fun i h1 h2 => ?_
  rw [List.getElem_map, List.getElem_range, List.getD_eq_getElem?_getD, List.getElem?_eq_getElem h2]
  rfl
end G76

set_option maxHeartbeats 4000000
namespace G76
open PySem PySem.Spec PyProof.Rows L2 DL
open FG (Red red inv pw push stk)
/-! # powers -/
def big (us : List (List Int)) : Bool := us.any fun w => decide (60 < w.length)
def rnn (ws : List (List Int)) : Nat → List (List Int) → List (List Int) ⊕ (Str × Int)
  | 0, us => .inl us
  | n + 1, us => if big (stp ws us) = true then .inr ("letters", 60) else if 48 < tot (stp ws us) then .inr ("together", 48) else rnn ws n (stp ws us)
def xd (p : Str × Int) : XD := ⟨"TooMany", [("what", .str p.1), ("limit", .int p.2)]⟩
theorem small_of {us : List (List Int)} (h : ¬ big us = true) : Sm us := fun w hw => by
  have : ¬ 60 < w.length := fun z => h (List.any_eq_true.mpr ⟨w, hw, decide_eq_true z⟩)
  omega
theorem wam_gt {s : Str} {l n : Int} (h : n > l) : F_want_at_most [.d (.str s), .d (.int l), .d (.int n)] = .ex (xd (s, l)) [some (.d (.str s)), some (.d (.int l)), some (.d (.int n))] := by
  simp [F_want_at_most, B_want_at_most, h, xd]
theorem wam_le {s : Str} {l n : Int} (h : n ≤ l) : F_want_at_most [.d (.str s), .d (.int l), .d (.int n)] = .ok (.d .non) [some (.d (.str s)), some (.d (.int l)), some (.d (.int n))] := by
  have : ¬ n > l := by omega
  simp [F_want_at_most, B_want_at_most, this]
abbrev M_wl : FM := mFd 3 F_want_at_most (arFz (mPP (pCon (.str "letters"))) (arFz (mPP (pCon (.int 60))) (arFz (mPP (pCa gLen (aCons (pName 0) aNil))) arNil)))
theorem wt_gt {w : List Int} (h : 60 < w.length) : F_want_told [.d (tw w)] = .ex (xd ("letters", 60)) [some (.d (tw w))] := by
  have l : ((dints w).length : Int) = w.length := by rw [dints_length]
  have a := wam_gt (s := "letters") (l := 60) (n := ((dints w).length : Nat)) (by omega)
  have m : M_wl [some (.d (tw w))] = .ex (xd ("letters", 60)) [some (.d (tw w))] := by
    show callM F_want_at_most [.fz (.str "letters"), .fz (.int 60), .fz (.int ((dints w).length : Nat))] [some (.d (tw w))] = _
    show (match F_want_at_most [.d (.str "letters"), .d (.int 60), .d (.int ((dints w).length : Nat))] with
      | .stuck => Out.stuck
      | .ok s o => (match putb [.fz (.str "letters"), .fz (.int 60), .fz (.int ((dints w).length : Nat))] o [some (.d (tw w))] with
        | some e2 => .ok s e2
        | none => .stuck)
      | .ex x o => (match putb [.fz (.str "letters"), .fz (.int 60), .fz (.int ((dints w).length : Nat))] o [some (.d (tw w))] with
        | some e2 => .ex x e2
        | none => .stuck)) = _
    rw [a]
    rfl
  have b : B_want_told [some (.d (tw w))] = .ex (xd ("letters", 60)) [some (.d (tw w))] := by
    refine seq_ex ?_
    show ((M_wl [some (.d (tw w))]).st fun _ e1 => Fl.nx e1) = _
    rw [m]
    rfl
  unfold F_want_told fnF
  rw [show enter 1 [.d (tw w)] = [some (.d (tw w))] from rfl, b]
  rfl
theorem wt_le {w : List Int} (h : ¬ 60 < w.length) : F_want_told [.d (tw w)] = .ok (.d (tw w)) [some (.d (tw w))] := by
  have l : ((dints w).length : Int) = w.length := by rw [dints_length]
  have a := wam_le (s := "letters") (l := 60) (n := ((dints w).length : Nat)) (by omega)
  have m : M_wl [some (.d (tw w))] = .ok (.d .non) [some (.d (tw w))] := by
    show (match F_want_at_most [.d (.str "letters"), .d (.int 60), .d (.int ((dints w).length : Nat))] with
      | .stuck => Out.stuck
      | .ok s o => (match putb [.fz (.str "letters"), .fz (.int 60), .fz (.int ((dints w).length : Nat))] o [some (.d (tw w))] with
        | some e2 => .ok s e2
        | none => .stuck)
      | .ex x o => (match putb [.fz (.str "letters"), .fz (.int 60), .fz (.int ((dints w).length : Nat))] o [some (.d (tw w))] with
        | some e2 => .ex x e2
        | none => .stuck)) = _
    rw [a]
    rfl
  have b : B_want_told [some (.d (tw w))] = .rt (.d (tw w)) [some (.d (tw w))] := by
    refine (seq_nx (e1 := [some (.d (tw w))]) ?_).trans (ret_fz rfl)
    show ((M_wl [some (.d (tw w))]).st fun _ e1 => Fl.nx e1) = _
    rw [m]
    rfl
  exact fn_rt (show B_want_told (enter 1 [.d (tw w)]) = _ from b) rfl rfl
abbrev B_ft : FS := sExpr (mFd 1 F_want_told (arFz (mPP (pName 1)) arNil))
theorem ft_gt {x : Option S} {w : List Int} (h : 60 < w.length) : B_ft [x, some (.d (tw w))] = .ex (xd ("letters", 60)) [x, some (.d (tw w))] := by
  have a := wt_gt h
  show (((match F_want_told [.d (tw w)] with
      | .stuck => Out.stuck
      | .ok s o => (match putb [.fz (tw w)] o [x, some (.d (tw w))] with
        | some e2 => .ok s e2
        | none => .stuck)
      | .ex y o => (match putb [.fz (tw w)] o [x, some (.d (tw w))] with
        | some e2 => .ex y e2
        | none => .stuck)) : Out).st fun _ e1 => Fl.nx e1) = _
  rw [a]
  rfl
theorem ft_le {x : Option S} {w : List Int} (h : ¬ 60 < w.length) : B_ft [x, some (.d (tw w))] = .nx [x, some (.d (tw w))] := by
  have a := wt_le h
  show (((match F_want_told [.d (tw w)] with
      | .stuck => Out.stuck
      | .ok s o => (match putb [.fz (tw w)] o [x, some (.d (tw w))] with
        | some e2 => .ok s e2
        | none => .stuck)
      | .ex y o => (match putb [.fz (tw w)] o [x, some (.d (tw w))] with
        | some e2 => .ex y e2
        | none => .stuck)) : Out).st fun _ e1 => Fl.nx e1) = _
  rw [a]
  rfl
theorem forL_ex {bind : FG} {fb : FS} {d : D} {ds : List D} {e e1 e2 : En} {x : XD} (h : bind d e = some e1) (h2 : fb e1 = .ex x e2) : forL bind fb (d :: ds) e = .ex x e2 := by
  unfold forL
  rw [h]
  show (match fb e1 with
    | .nx e2 => forL bind fb ds e2
    | .ct e2 => forL bind fb ds e2
    | .bk e2 => .nx e2
    | o => o) = _
  rw [h2]
theorem ft_loop (x : Option S) : ∀ (us : List (List Int)) (t : Option S), ∃ t', forL (gNm 1) B_ft (us.map tw) [x, t] = if big us = true then .ex (xd ("letters", 60)) [x, t'] else .nx [x, t']
  | [], t => ⟨t, rfl⟩
  | w :: us, t => by
    by_cases h : 60 < w.length
    · refine ⟨some (.d (tw w)), ?_⟩
      rw [if_pos (show big (w :: us) = true from by unfold big; rw [List.any_cons, decide_eq_true h]; rfl)]
      exact forL_ex (show gNm 1 (tw w) [x, t] = some [x, some (.d (tw w))] from rfl) (ft_gt h)
    · obtain ⟨t', ih⟩ := ft_loop x us (some (.d (tw w)))
      refine ⟨t', ?_⟩
      rw [show big (w :: us) = big us from by unfold big; rw [List.any_cons, decide_eq_false h, Bool.false_or], ← ih]
      exact forL_nx (show gNm 1 (tw w) [x, t] = some [x, some (.d (tw w))] from rfl) (ft_le h)
abbrev M_wt : FM := mFd 3 F_want_at_most (arFz (mPP (pCon (.str "together"))) (arFz (mPP (pCon (.int 48))) (arFz (mPP (pCa gSum (aCons (pLc [1] (iSeq (pName 0)) (gNm 1) tAll (pCa gLen (aCons (pName 1) aNil))) aNil))) arNil)))
theorem M_wt_eq {us : List (List Int)} {t : Option S} (hz : us.length ≤ 1000) : M_wt [some (.d (.tup (us.map tw))), t] = if 48 < tot us then .ex (xd ("together", 48)) [some (.d (.tup (us.map tw))), t] else .ok (.d .non) [some (.d (.tup (us.map tw))), t] := by
  have s := sum_ok (e := [some (.d (.tup (us.map tw))), t]) (fi := iSeq (pName 0)) (i := 1) (us := us) (b := true) rfl (by show 1 < 2; omega) hz
  have q : mPP (pCa gSum (aCons (pLc [1] (iSeq (pName 0)) (gNm 1) tAll (pCa gLen (aCons (pName 1) aNil))) aNil)) [some (.d (.tup (us.map tw))), t] = .ok (.d (.int (tot us : Nat))) [some (.d (.tup (us.map tw))), t] := mpp_fz s
  have w : M_wt [some (.d (.tup (us.map tw))), t] = callM F_want_at_most [.fz (.str "together"), .fz (.int 48), .fz (.int (tot us : Nat))] [some (.d (.tup (us.map tw))), t] := by
    unfold M_wt mFd arFz
    rw [show mPP (pCon (.str "together")) [some (.d (.tup (us.map tw))), t] = .ok (.d (.str "together")) [some (.d (.tup (us.map tw))), t] from rfl]
    show (match OA.cons (.fz (.str "together")) (OA.cons (.fz (.int 48)) ((mPP (pCa gSum (aCons (pLc [1] (iSeq (pName 0)) (gNm 1) tAll (pCa gLen (aCons (pName 1) aNil))) aNil)) [some (.d (.tup (us.map tw))), t]).arF arNil)) with
      | .stuck => Out.stuck
      | .ok as e1 => if as.length = 3 then callM F_want_at_most as e1 else .stuck
      | .ex x e1 => .ex x e1) = _
    rw [q]
    rfl
  rw [w]
  unfold callM
  show (match F_want_at_most [.d (.str "together"), .d (.int 48), .d (.int (tot us : Nat))] with
      | .stuck => Out.stuck
      | .ok s o => (match putb [.fz (.str "together"), .fz (.int 48), .fz (.int (tot us : Nat))] o [some (.d (.tup (us.map tw))), t] with
        | some e2 => .ok s e2
        | none => .stuck)
      | .ex x o => (match putb [.fz (.str "together"), .fz (.int 48), .fz (.int (tot us : Nat))] o [some (.d (.tup (us.map tw))), t] with
        | some e2 => .ex x e2
        | none => .stuck)) = _
  by_cases h : 48 < tot us
  · rw [if_pos h, wam_gt (by omega)]
    rfl
  · rw [if_neg h, wam_le (by omega)]
    rfl
theorem fits_ok {us : List (List Int)} (hz : us.length ≤ 1000) : F_fits_images [.d (.tup (us.map tw))] = if big us = true then .ex (xd ("letters", 60)) [some (.d (.tup (us.map tw)))] else if 48 < tot us then .ex (xd ("together", 48)) [some (.d (.tup (us.map tw)))] else .ok (.d (.tup (us.map tw))) [some (.d (.tup (us.map tw)))] := by
  obtain ⟨t', l⟩ := ft_loop (some (.d (.tup (us.map tw)))) us none
  have f : sFor (iSeq (pName 0)) (gNm 1) B_ft [some (.d (.tup (us.map tw))), none] = _ := l
  unfold F_fits_images fnF
  rw [show enter 2 [.d (.tup (us.map tw))] = [some (.d (.tup (us.map tw))), none] from rfl]
  by_cases h : big us = true
  · rw [if_pos h] at f ⊢
    rw [show B_fits_images [some (.d (.tup (us.map tw))), none] = _ from seq_ex f]
    rfl
  · rw [if_neg h] at f ⊢
    rw [show B_fits_images [some (.d (.tup (us.map tw))), none] = _ from seq_nx f]
    have m := M_wt_eq (us := us) (t := t') hz
    by_cases q : 48 < tot us
    · rw [if_pos q] at m ⊢
      have s : sExpr M_wt [some (.d (.tup (us.map tw))), t'] = .ex (xd ("together", 48)) [some (.d (.tup (us.map tw))), t'] := by
        show ((M_wt [some (.d (.tup (us.map tw))), t']).st fun _ e1 => Fl.nx e1) = _
        rw [m]
        rfl
      rw [seq_ex s]
      rfl
    · rw [if_neg q] at m ⊢
      have s : sExpr M_wt [some (.d (.tup (us.map tw))), t'] = .nx [some (.d (.tup (us.map tw))), t'] := by
        show ((M_wt [some (.d (.tup (us.map tw))), t']).st fun _ e1 => Fl.nx e1) = _
        rw [m]
        rfl
      rw [seq_nx s, ret_fz (x := .tup (us.map tw)) rfl]
      rfl
end G76

set_option maxHeartbeats 4000000
namespace G76
open PySem PySem.Spec PyProof.Rows L2 DL
open FG (Red red inv pw push stk)
theorem behind_ok {r : Int} {ws us : List (List Int)} (v : VI r ws) (ok : Ok r us) (sm : Sm us) : F_behind_of [.d (im r r us), .d (im r r ws)] = .ok (.d (.tup ((stp ws us).map tw))) [some (.d (im r r us)), some (.d (im r r ws))] :=
  fn_rt (show B_behind_of (enter 3 [.d (im r r us), .d (im r r ws)]) = .rt (.d (.tup ((stp ws us).map tw))) [some (.d (im r r us)), some (.d (im r r ws)), none] from
    ret_fz (tup_step fim_p v ok sm (us := us) (b := true) (k := 1) (j := 2) (fi := iSeq (p2 DL.gIx (pName 0) (pCon (.int 3)))) rfl (fun _ => rfl) (by show 2 < 3; omega))) rfl rfl
theorem wm_ok {n m : Int} (h0 : 0 ≤ n) (h1 : n ≤ m) : F_want_many [.d (.int n), .d (.int m), .d (.int 0)] = .ok (.d .non) [some (.d (.int n)), some (.d (.int m)), some (.d (.int 0))] := by
  have c : F_is_count [.d (.int n)] = .ok (.d (.bl true)) [some (.d (.int n))] := by simp [F_is_count, B_is_count, is_integer_int, h0]
  simp [F_want_many, B_want_many, c, h0, h1]
abbrev B_ip : FS := sSet 2 (mTup (lCons (mPP (pCon (.str "images"))) (lCons (mPP (p2 DL.gIx (pName 0) (pCon (.int 1)))) (lCons (mPP (p2 DL.gIx (pName 0) (pCon (.int 1)))) (lCons (mFd 1 F_fits_images (arFz (mPP (pFd F_behind_of (aCons (pName 2) (aCons (pName 0) aNil)))) arNil)) lNil)))))
abbrev M_fi : FM := mFd 1 F_fits_images (arFz (mPP (pFd F_behind_of (aCons (pName 2) (aCons (pName 0) aNil)))) arNil)
theorem M_fi_eq {r : Int} {ws us : List (List Int)} (v : VI r ws) (ok : Ok r us) (sm : Sm us) (m t : Option S) :
    M_fi [some (.d (im r r ws)), m, some (.d (im r r us)), t] = if big (stp ws us) = true then .ex (xd ("letters", 60)) [some (.d (im r r ws)), m, some (.d (im r r us)), t] else if 48 < tot (stp ws us) then .ex (xd ("together", 48)) [some (.d (im r r ws)), m, some (.d (im r r us)), t] else .ok (.d (.tup ((stp ws us).map tw))) [some (.d (im r r ws)), m, some (.d (im r r us)), t] := by
  have q : mPP (pFd F_behind_of (aCons (pName 2) (aCons (pName 0) aNil))) [some (.d (im r r ws)), m, some (.d (im r r us)), t] = .ok (.d (.tup ((stp ws us).map tw))) [some (.d (im r r ws)), m, some (.d (im r r us)), t] :=
    mpp_fz (call2 (a := im r r us) (b := im r r ws) rfl rfl (behind_ok v ok sm))
  have f := fits_ok (us := stp ws us) (by have := (stp_ok v ok).1; have := v.r2; omega)
  have w : M_fi [some (.d (im r r ws)), m, some (.d (im r r us)), t] = callM F_fits_images [.fz (.tup ((stp ws us).map tw))] [some (.d (im r r ws)), m, some (.d (im r r us)), t] := by
    unfold M_fi mFd arFz
    rw [q]
    rfl
  rw [w]
  unfold callM
  show (match F_fits_images [.d (.tup ((stp ws us).map tw))] with
      | .stuck => Out.stuck
      | .ok s o => (match putb [.fz (.tup ((stp ws us).map tw))] o [some (.d (im r r ws)), m, some (.d (im r r us)), t] with
        | some e2 => .ok s e2
        | none => .stuck)
      | .ex x o => (match putb [.fz (.tup ((stp ws us).map tw))] o [some (.d (im r r ws)), m, some (.d (im r r us)), t] with
        | some e2 => .ex x e2
        | none => .stuck)) = _
  rw [f]
  by_cases h : big (stp ws us) = true
  · rw [if_pos h, if_pos h]
    rfl
  · rw [if_neg h, if_neg h]
    by_cases h2 : 48 < tot (stp ws us)
    · rw [if_pos h2, if_pos h2]
      rfl
    · rw [if_neg h2, if_neg h2]
      rfl
theorem B_ip_eq {r : Int} {ws us : List (List Int)} (v : VI r ws) (ok : Ok r us) (sm : Sm us) (m t : Option S) :
    B_ip [some (.d (im r r ws)), m, some (.d (im r r us)), t] = if big (stp ws us) = true then .ex (xd ("letters", 60)) [some (.d (im r r ws)), m, some (.d (im r r us)), t] else if 48 < tot (stp ws us) then .ex (xd ("together", 48)) [some (.d (im r r ws)), m, some (.d (im r r us)), t] else .nx [some (.d (im r r ws)), m, some (.d (im r r (stp ws us))), t] := by
  have q := M_fi_eq v ok sm m t
  have w : B_ip [some (.d (im r r ws)), m, some (.d (im r r us)), t] = (((OL.cons (.str "images") (OL.cons (.int r) (OL.cons (.int r) ((M_fi [some (.d (im r r ws)), m, some (.d (im r r us)), t]).cons lNil)))).bind fun ds e1 => rvO (if ds.length ≤ SZ then some (.fz (.tup ds)) else none) e1).st fun s e1 => put 2 s.view e1) := rfl
  rw [w, q]
  by_cases h : big (stp ws us) = true
  · rw [if_pos h, if_pos h]
    rfl
  rw [if_neg h, if_neg h]
  by_cases h2 : 48 < tot (stp ws us)
  · rw [if_pos h2, if_pos h2]
    rfl
  · rw [if_neg h2, if_neg h2]
    show ((rvO (if 4 ≤ SZ then some (.fz (im r r (stp ws us))) else none) [some (.d (im r r ws)), m, some (.d (im r r us)), t]).st fun s e1 => put 2 s.view e1) = _
    rw [if_pos (by decide)]
    rfl
theorem ip_loop {r : Int} {ws : List (List Int)} (v : VI r ws) (m : Option S) : ∀ (ds : List D) (us : List (List Int)) (t : Option S), Ok r us → Sm us →
    ∃ x2 x3, forL (gNm 3) B_ip ds [some (.d (im r r ws)), m, some (.d (im r r us)), t] = match rnn ws ds.length us with
      | .inl vs => .nx [some (.d (im r r ws)), m, some (.d (im r r vs)), x3]
      | .inr p => .ex (xd p) [some (.d (im r r ws)), m, x2, x3]
  | [], us, t, _, _ => ⟨none, t, rfl⟩
  | d :: ds, us, t, ok, sm => by
    have q := B_ip_eq v ok sm m (some (.d d))
    have g : gNm 3 d [some (.d (im r r ws)), m, some (.d (im r r us)), t] = some [some (.d (im r r ws)), m, some (.d (im r r us)), some (.d d)] := rfl
    rw [List.length_cons]
    unfold rnn
    by_cases h : big (stp ws us) = true
    · rw [if_pos h] at q ⊢
      exact ⟨_, _, forL_ex g q⟩
    · rw [if_neg h] at q ⊢
      by_cases h2 : 48 < tot (stp ws us)
      · rw [if_pos h2] at q ⊢
        exact ⟨_, _, forL_ex g q⟩
      · rw [if_neg h2] at q ⊢
        obtain ⟨x2, x3, ih⟩ := ip_loop v m ds (stp ws us) (some (.d d)) (stp_ok v ok) (small_of h)
        exact ⟨x2, x3, (forL_nx g q).trans ih⟩
theorem rangeD_length (lo : Int) (n : Nat) : (rangeD lo n).length = n := by simp [rangeD]
theorem power_ok {r : Int} {ws : List (List Int)} (v : VI r ws) {n : Int} (h0 : 0 ≤ n) (h1 : n ≤ 24) : F_images_power [.d (im r r ws), .d (.int n)] = match rnn ws n.toNat (idz r) with
      | .inl vs => .ok (.d (im r r vs)) [some (.d (im r r ws)), some (.d (.int n))]
      | .inr p => .ex (xd p) [some (.d (im r r ws)), some (.d (.int n))] := by
  obtain ⟨io, is, _⟩ := idz_ok v.r1 v.r2
  obtain ⟨x2, x3, l⟩ := ip_loop v (some (.d (.int n))) (rangeD 0 n.toNat) (idz r) none io is
  rw [rangeD_length] at l
  have i62n : i62 n = true := i62_small (by omega) (by omega)
  have a1 : sExpr (mPP (pFd F_want_images (aCons (pName 0) aNil))) [some (.d (im r r ws)), some (.d (.int n)), none, none] = .nx [some (.d (im r r ws)), some (.d (.int n)), none, none] := expr_fz (call1 rfl (wi_ok v))
  have a2 : sExpr (mPP (pFd F_want_many (aDf [0] (aCons (pName 1) (aCons (pCon (.int 24)) aNil))))) [some (.d (im r r ws)), some (.d (.int n)), none, none] = .nx [some (.d (im r r ws)), some (.d (.int n)), none, none] :=
    expr_fz ((pFd_ok (rs := [.fz (.int n), .fz (.int 24), .fz (.int 0)]) rfl).trans (callP_fz (wm_ok h0 h1) (Or.inl rfl)))
  have a3 : sExpr (mPP (pFd F_want_own_rank (aCons (pName 0) aNil))) [some (.d (im r r ws)), some (.d (.int n)), none, none] = .nx [some (.d (im r r ws)), some (.d (.int n)), none, none] := expr_fz (call1 rfl (wr_ok v))
  have a4 : sSet 2 (mPP (pFd F_letters_as_images (aCons (p2 DL.gIx (pName 0) (pCon (.int 1))) aNil))) [some (.d (im r r ws)), some (.d (.int n)), none, none] = .nx [some (.d (im r r ws)), some (.d (.int n)), some (.d (im r r (idz r))), none] :=
    set_fz (call1 (a := .int r) rfl (lai_ok v.r1 v.r2)) (by show 2 < 4; omega)
  have a5 : sFor (iRg1 (aCons (pName 1) aNil)) (gNm 3) B_ip [some (.d (im r r ws)), some (.d (.int n)), some (.d (im r r (idz r))), none] = forL (gNm 3) B_ip (rangeD 0 n.toNat) [some (.d (im r r ws)), some (.d (.int n)), some (.d (im r r (idz r))), none] := by
    have : iRg1 (aCons (pName 1) aNil) [some (.d (im r r ws)), some (.d (.int n)), some (.d (im r r (idz r))), none] = some (rangeD 0 n.toNat, true) := by
      show (if i62 n = true then some (rangeD 0 n.toNat, true) else none) = _
      rw [if_pos i62n]
    unfold sFor
    rw [this]
  have b : B_images_power [some (.d (im r r ws)), some (.d (.int n)), none, none] = (forL (gNm 3) B_ip (rangeD 0 n.toNat) [some (.d (im r r ws)), some (.d (.int n)), some (.d (im r r (idz r))), none]).seq (sRet (mPP (pName 2))) :=
    (seq_nx a1).trans ((seq_nx a2).trans ((seq_nx a3).trans ((seq_nx a4).trans (by
      show (sFor (iRg1 (aCons (pName 1) aNil)) (gNm 3) B_ip [some (.d (im r r ws)), some (.d (.int n)), some (.d (im r r (idz r))), none]).seq (sRet (mPP (pName 2))) = _
      rw [a5]))))
  unfold F_images_power fnF
  rw [show enter 4 [.d (im r r ws), .d (.int n)] = [some (.d (im r r ws)), some (.d (.int n)), none, none] from rfl, b, l]
  cases rnn ws n.toNat (idz r) <;> rfl
/-! ### the law's own powers -/
abbrev B_lpw : FS := sSeq (sSet 2 (mPP (pCa gTuple (aCons (pLc [5] (iSeq (pName 2)) (gNm 5) tAll (pFd F__law_image (aCons (pName 0) (aCons (pName 5) aNil)))) aNil)))) (sSeq (sIf (tMT (tVal (p2 gGt (pCa gMaxL (aCons (pLc [5] (iSeq (pName 2)) (gNm 5) tAll (pCa gLen (aCons (pName 5) aNil))) aNil)) (pCon (.int 60))))) (sRet (mPP (pLst (aCons (pCon (.str "letters")) (aCons (pCon (.int 60)) aNil))))) sNil) (sIf (tMT (tVal (p2 gGt (pCa gSum (aCons (pLc [5] (iSeq (pName 2)) (gNm 5) tAll (pCa gLen (aCons (pName 5) aNil))) aNil)) (pCon (.int 48))))) (sRet (mPP (pLst (aCons (pCon (.str "together")) (aCons (pCon (.int 48)) aNil))))) sNil))
abbrev lpwE (r : Int) (ws us : List (List Int)) (m t : Option S) : En := [some (.d (im r r ws)), m, some (.d (.tup (us.map tw))), t, none, none]
theorem B_lpw_eq {r : Int} {ws us : List (List Int)} (v : VI r ws) (ok : Ok r us) (sm : Sm us) (m t : Option S) :
    B_lpw (lpwE r ws us m t) = if big (stp ws us) = true then .rt (.lst [.str "letters", .int 60]) (lpwE r ws (stp ws us) m t) else if 48 < tot (stp ws us) then .rt (.lst [.str "together", .int 48]) (lpwE r ws (stp ws us) m t) else .nx (lpwE r ws (stp ws us) m t) := by
  have so := stp_ok v ok
  have l1 : (stp ws us).length ≤ 1000 := by have := so.1; have := v.r2; omega
  have l0 : 0 < (stp ws us).length := by have := so.1; have := v.r1; omega
  have a1 : sSet 2 (mPP (pCa gTuple (aCons (pLc [5] (iSeq (pName 2)) (gNm 5) tAll (pFd F__law_image (aCons (pName 0) (aCons (pName 5) aNil)))) aNil))) (lpwE r ws us m t) = .nx (lpwE r ws (stp ws us) m t) :=
    set_fz (tup_step fim_l v ok sm (us := us) (b := true) (k := 0) (j := 5) (fi := iSeq (pName 2)) rfl (fun _ => rfl) (by show 5 < 6; omega)) (by show 2 < 6; omega)
  have m1 : tVal (p2 gGt (pCa gMaxL (aCons (pLc [5] (iSeq (pName 2)) (gNm 5) tAll (pCa gLen (aCons (pName 5) aNil))) aNil)) (pCon (.int 60))) (lpwE r ws (stp ws us) m t) = some (big (stp ws us)) := by
    refine tVal_ok ((p2_ok (b := .fz (.int 60)) (max_ok (us := stp ws us) (b := true) rfl (by show 5 < 6; omega) l1 l0) rfl).trans ?_)
    show some (RV.fz (.bl (decide (maxI (lens (stp ws us)) > 60)))) = _
    congr 3
    rw [Bool.eq_iff_iff, decide_eq_true_iff, max_gt l0]
    unfold big
    rw [List.any_eq_true]
    exact ⟨fun ⟨w, hw, h⟩ => ⟨w, hw, decide_eq_true h⟩, fun ⟨w, hw, h⟩ => ⟨w, hw, of_decide_eq_true h⟩⟩
  have m2 : tVal (p2 gGt (pCa gSum (aCons (pLc [5] (iSeq (pName 2)) (gNm 5) tAll (pCa gLen (aCons (pName 5) aNil))) aNil)) (pCon (.int 48))) (lpwE r ws (stp ws us) m t) = some (decide (48 < tot (stp ws us))) := by
    refine tVal_ok ((p2_ok (b := .fz (.int 48)) (sum_ok (us := stp ws us) (b := true) rfl (by show 5 < 6; omega) l1) rfl).trans ?_)
    show some (RV.fz (.bl (decide (((tot (stp ws us) : Nat) : Int) > 48)))) = _
    congr 3
    rw [decide_eq_decide]
    omega
  refine (seq_nx a1).trans ?_
  by_cases h : big (stp ws us) = true
  · rw [if_pos h]
    rw [h] at m1
    exact seq_rt ((if_t m1).trans (ret_fr (pLst_ok (rs := [.fz (.str "letters"), .fz (.int 60)]) rfl rfl (by decide))))
  · rw [if_neg h]
    have h' : big (stp ws us) = false := by simpa using h
    rw [h'] at m1
    refine (seq_nx ((if_f m1).trans rfl)).trans ?_
    by_cases h2 : 48 < tot (stp ws us)
    · rw [if_pos h2]
      rw [decide_eq_true h2] at m2
      exact (if_t m2).trans (ret_fr (pLst_ok (rs := [.fz (.str "together"), .fz (.int 48)]) rfl rfl (by decide)))
    · rw [if_neg h2]
      rw [decide_eq_false h2] at m2
      exact (if_f m2).trans rfl
theorem lpw_loop {r : Int} {ws : List (List Int)} (v : VI r ws) (m : Option S) : ∀ (ds : List D) (us : List (List Int)) (t : Option S), Ok r us → Sm us →
    ∃ us' t', forL (gNm 3) B_lpw ds (lpwE r ws us m t) = match rnn ws ds.length us with
      | .inl vs => .nx (lpwE r ws vs m t')
      | .inr p => .rt (.lst [.str p.1, .int p.2]) (lpwE r ws us' m t')
  | [], us, t, _, _ => ⟨us, t, rfl⟩
  | d :: ds, us, t, ok, sm => by
    have q := B_lpw_eq v ok sm m (some (.d d))
    have g : gNm 3 d (lpwE r ws us m t) = some (lpwE r ws us m (some (.d d))) := rfl
    rw [List.length_cons]
    unfold rnn
    by_cases h : big (stp ws us) = true
    · rw [if_pos h] at q ⊢
      exact ⟨_, _, forL_rt g q⟩
    · rw [if_neg h] at q ⊢
      by_cases h2 : 48 < tot (stp ws us)
      · rw [if_pos h2] at q ⊢
        exact ⟨_, _, forL_rt g q⟩
      · rw [if_neg h2] at q ⊢
        obtain ⟨x2, x3, ih⟩ := lpw_loop v m ds (stp ws us) (some (.d d)) (stp_ok v ok) (small_of h)
        exact ⟨x2, x3, (forL_nx g q).trans ih⟩
/-- what is due, as a function's answer -/
def dueS (r : Int) (ws : List (List Int)) (n : Int) : S := match rnn ws n.toNat (idz r) with
  | .inl vs => .d (im r r vs)
  | .inr p => .lst [.str p.1, .int p.2]
theorem lawpow_ok {r : Int} {ws : List (List Int)} (v : VI r ws) {n : Int} (h0 : 0 ≤ n) (h1 : n ≤ 24) : F__law_powers [.d (im r r ws), .d (.int n)] = .ok (dueS r ws n) [some (.d (im r r ws)), some (.d (.int n))] := by
  obtain ⟨io, is, _⟩ := idz_ok v.r1 v.r2
  obtain ⟨us', t', l⟩ := lpw_loop v (some (.d (.int n))) (rangeD 0 n.toNat) (idz r) none io is
  rw [rangeD_length] at l
  have i62n : i62 n = true := i62_small (by omega) (by omega)
  have a1 : sSet 2 (mPP (pCa gTuple (aCons (pLc [4] (iRg2 (aCons (pCon (.int 1)) (aCons (p2 DL.gAdd (p2 DL.gIx (pName 0) (pCon (.int 1))) (pCon (.int 1))) aNil))) (gNm 4) tAll (pTup (aCons (pName 4) aNil))) aNil))) [some (.d (im r r ws)), some (.d (.int n)), none, none, none, none] = .nx (lpwE r ws (idz r) (some (.d (.int n))) none) :=
    set_fz (ids_ok v.r1 v.r2 ws _ _ _ _ _) (by show 2 < 6; omega)
  have a2 : sFor (iRg1 (aCons (pName 1) aNil)) (gNm 3) B_lpw (lpwE r ws (idz r) (some (.d (.int n))) none) = forL (gNm 3) B_lpw (rangeD 0 n.toNat) (lpwE r ws (idz r) (some (.d (.int n))) none) := by
    have : iRg1 (aCons (pName 1) aNil) (lpwE r ws (idz r) (some (.d (.int n))) none) = some (rangeD 0 n.toNat, true) := by
      show (if i62 n = true then some (rangeD 0 n.toNat, true) else none) = _
      rw [if_pos i62n]
    unfold sFor
    rw [this]
  have b : B__law_powers [some (.d (im r r ws)), some (.d (.int n)), none, none, none, none] = (forL (gNm 3) B_lpw (rangeD 0 n.toNat) (lpwE r ws (idz r) (some (.d (.int n))) none)).seq (sRet (mPP (pTup (aCons (pCon (.str "images")) (aCons (p2 DL.gIx (pName 0) (pCon (.int 1))) (aCons (p2 DL.gIx (pName 0) (pCon (.int 1))) (aCons (pName 2) aNil))))))) :=
    (seq_nx a1).trans (by
      show (sFor (iRg1 (aCons (pName 1) aNil)) (gNm 3) B_lpw (lpwE r ws (idz r) (some (.d (.int n))) none)).seq _ = _
      rw [a2])
  unfold F__law_powers fnF dueS
  rw [show enter 6 [.d (im r r ws), .d (.int n)] = [some (.d (im r r ws)), some (.d (.int n)), none, none, none, none] from rfl, b, l]
  cases rnn ws n.toNat (idz r) with
  | inl vs =>
    show fin [.d (im r r ws), .d (.int n)] (sRet (mPP (pTup (aCons (pCon (.str "images")) (aCons (p2 DL.gIx (pName 0) (pCon (.int 1))) (aCons (p2 DL.gIx (pName 0) (pCon (.int 1))) (aCons (pName 2) aNil)))))) (lpwE r ws vs (some (.d (.int n))) t')) = _
    rw [ret_fz (x := im r r vs) (pTup_ok (rs := [.fz (.str "images"), .fz (.int r), .fz (.int r), .fz (.tup (vs.map tw))]) rfl rfl (by show 4 ≤ 1000; omega))]
    rfl
  | inr p => rfl
end G76

set_option maxHeartbeats 4000000
namespace G76
open PySem PySem.Spec PyProof.Rows L2 DL
open FG (Red red inv pw push stk)
/-! # the least turn -/
theorem eqvAll_tws : ∀ us vs : List (List Int), PyData.eqvAll (pyL (us.map tw)) (pyL (vs.map tw)) = decide (us = vs)
  | [], [] => by simp [pyL, PyData.eqvAll]
  | [], _ :: _ => by simp [pyL, PyData.eqvAll]
  | _ :: _, [] => by simp [pyL, PyData.eqvAll]
  | a :: us, b :: vs => by
    have ih := eqvAll_tws us vs
    have q : PyData.eqv (tw a).py (tw b).py = decide (a = b) := eqb_tupI a b
    show (PyData.eqv (tw a).py (tw b).py && PyData.eqvAll (pyL (us.map tw)) (pyL (vs.map tw))) = _
    rw [ih, q, Bool.eq_iff_iff]
    simp
theorem nice_tt {us : List (List Int)} (h : ∀ w ∈ us, L4 w) : (D.tup (us.map tw)).nice = true ∧ (D.tup (us.map tw)).dep ≤ 2 := by
  obtain ⟨a, b⟩ := nl_tw us h
  exact ⟨a, by show depL (us.map tw) + 1 ≤ 2; omega⟩
theorem gEq_tws {us vs : List (List Int)} (hu : ∀ w ∈ us, L4 w) (hv : ∀ w ∈ vs, L4 w) : gEq (.tup (us.map tw)) (.tup (vs.map tw)) = some (.fz (.bl (decide (us = vs)))) := by
  have e : eqb (.tup (us.map tw)) (.tup (vs.map tw)) = decide (us = vs) := by
    unfold eqb
    simp only [D.py, PyData.eqv]
    exact eqvAll_tws us vs
  obtain ⟨n1, d1⟩ := nice_tt hu
  obtain ⟨n2, d2⟩ := nice_tt hv
  rw [gEq_nice n1 n2 (by omega) (by omega), e]
theorem gNe_tws {us vs : List (List Int)} (hu : ∀ w ∈ us, L4 w) (hv : ∀ w ∈ vs, L4 w) : gNe (.tup (us.map tw)) (.tup (vs.map tw)) = some (.fz (.bl (!decide (us = vs)))) := by
  have e : eqb (.tup (us.map tw)) (.tup (vs.map tw)) = decide (us = vs) := by
    unfold eqb
    simp only [D.py, PyData.eqv]
    exact eqvAll_tws us vs
  obtain ⟨n1, d1⟩ := nice_tt hu
  obtain ⟨n2, d2⟩ := nice_tt hv
  rw [gNe_nice n1 n2 (by omega) (by omega), e]
theorem Ok.l4 {r : Int} {us : List (List Int)} (h : Ok r us) (h2 : r ≤ 4) : ∀ w ∈ us, L4 w := fun w hw => L4_of h2 (h.2 w hw)
def lst (ws ids : List (List Int)) : Nat → Int → List (List Int) → Option Int
  | 0, _, _ => none
  | n + 1, k, us => if us = ids then some k else if 48 < tot us then none else lst ws ids n (k + 1) (stp ws us)
def ldv : Option Int → D
  | some k => .int k
  | none => .non
theorem tot_sm {us : List (List Int)} (h : ¬ 48 < tot us) : Sm us := fun w hw => by
  have := mem_sum hw
  unfold tot at h
  omega
theorem seq_rtf {s : S} {e : En} {f : FS} : Fl.seq (.rt s e) f = .rt s e := rfl
abbrev B_ltn : FS := sSeq (sIf (tMT (tVal (p2 gEq (pName 1) (pName 2)))) (sRet (mPP (pName 3))) sNil) (sSeq (sIf (tMT (tVal (p2 gGt (pCa gSum (aCons (pLc [4] (iSeq (pName 1)) (gNm 4) tAll (pCa gLen (aCons (pName 4) aNil))) aNil)) (pCon (.int 48))))) (sRet (mPP (pCon .non))) sNil) (sSet 1 (mPP (pCa gTuple (aCons (pLc [4] (iSeq (pName 1)) (gNm 4) tAll (pFd F_image_of (aCons (pName 0) (aCons (pName 4) aNil)))) aNil)))))
abbrev ltE (r : Int) (ws us : List (List Int)) (t : Option S) : En := [some (.d (im r r ws)), some (.d (.tup (us.map tw))), some (.d (.tup ((idz r).map tw))), t, none]
theorem lt_loop2 {r : Int} {ws : List (List Int)} (v : VI r ws) : ∀ (n : Nat) (k : Int) (us : List (List Int)) (t : Option S), Ok r us →
    ∃ us' t', (forL (gNm 3) B_ltn (rangeD k n) (ltE r ws us t)).seq (sRet (mPP (pCon .non))) = .rt (.d (ldv (lst ws (idz r) n k us))) (ltE r ws us' t')
  | 0, k, us, t, _ => ⟨us, t, rfl⟩
  | n + 1, k, us, t, ok => by
    have r1 := v.r1
    have r2 := v.r2
    have g : gNm 3 (.int k) (ltE r ws us t) = some (ltE r ws us (some (.d (.int k)))) := rfl
    have l1 : us.length ≤ 1000 := by have := ok.1; omega
    have t1 : tVal (p2 gEq (pName 1) (pName 2)) (ltE r ws us (some (.d (.int k)))) = some (decide (us = idz r)) :=
      tVal_ok ((p2_ok (a := .fz (.tup (us.map tw))) (b := .fz (.tup ((idz r).map tw))) rfl rfl).trans (gEq_tws (ok.l4 r2) ((idz_ok r1 r2).1.l4 r2)))
    have t2 : tVal (p2 gGt (pCa gSum (aCons (pLc [4] (iSeq (pName 1)) (gNm 4) tAll (pCa gLen (aCons (pName 4) aNil))) aNil)) (pCon (.int 48))) (ltE r ws us (some (.d (.int k)))) = some (decide (48 < tot us)) := by
      refine tVal_ok ((p2_ok (b := .fz (.int 48)) (sum_ok (us := us) (b := true) rfl (by show 4 < 5; omega) l1) rfl).trans ?_)
      show some (RV.fz (.bl (decide (((tot us : Nat) : Int) > 48)))) = _
      congr 3
      rw [decide_eq_decide]
      omega
    rw [range_cons]
    unfold lst
    by_cases h : us = idz r
    · rw [if_pos h]
      rw [decide_eq_true h] at t1
      refine ⟨us, some (.d (.int k)), ?_⟩
      have st : B_ltn (ltE r ws us (some (.d (.int k)))) = .rt (.d (.int k)) (ltE r ws us (some (.d (.int k)))) := seq_rt ((if_t t1).trans (ret_fz (x := .int k) rfl))
      rw [forL_rt g st]
      rfl
    · rw [if_neg h]
      rw [decide_eq_false h] at t1
      by_cases h2 : 48 < tot us
      · rw [if_pos h2]
        rw [decide_eq_true h2] at t2
        refine ⟨us, some (.d (.int k)), ?_⟩
        have st : B_ltn (ltE r ws us (some (.d (.int k)))) = .rt (.d .non) (ltE r ws us (some (.d (.int k)))) := (seq_nx ((if_f t1).trans rfl)).trans (seq_rt ((if_t t2).trans (ret_fz (x := .non) rfl)))
        rw [forL_rt g st]
        rfl
      · rw [if_neg h2]
        rw [decide_eq_false h2] at t2
        have s : sSet 1 (mPP (pCa gTuple (aCons (pLc [4] (iSeq (pName 1)) (gNm 4) tAll (pFd F_image_of (aCons (pName 0) (aCons (pName 4) aNil)))) aNil))) (ltE r ws us (some (.d (.int k)))) = .nx (ltE r ws (stp ws us) (some (.d (.int k)))) :=
          set_fz (tup_step fim_p v ok (tot_sm h2) (us := us) (b := true) (k := 0) (j := 4) (fi := iSeq (pName 1)) rfl (fun _ => rfl) (by show 4 < 5; omega)) (by show 1 < 5; omega)
        obtain ⟨us', t', ih⟩ := lt_loop2 v n (k + 1) (stp ws us) (some (.d (.int k))) (stp_ok v ok)
        refine ⟨us', t', ?_⟩
        have st : B_ltn (ltE r ws us (some (.d (.int k)))) = .nx (ltE r ws (stp ws us) (some (.d (.int k)))) := (seq_nx ((if_f t1).trans rfl)).trans ((seq_nx ((if_f t2).trans rfl)).trans s)
        rw [forL_nx g st]
        exact ih
def lea (r : Int) (ws : List (List Int)) : Option Int := lst ws (idz r) 24 1 ws
theorem least_ok {r : Int} {ws : List (List Int)} (v : VI r ws) : F_least_turn [.d (im r r ws)] = .ok (.d (ldv (lea r ws))) [some (.d (im r r ws))] := by
  obtain ⟨us', t', l⟩ := lt_loop2 v 24 1 ws none v.ok
  have a1 : sExpr (mPP (pFd F_want_own_rank (aCons (pName 0) aNil))) [some (.d (im r r ws)), none, none, none, none] = .nx [some (.d (im r r ws)), none, none, none, none] := expr_fz (call1 rfl (wr_ok v))
  have c : pFd F_letters_as_images (aCons (p2 DL.gIx (pName 0) (pCon (.int 1))) aNil) [some (.d (im r r ws)), none, none, none, none] = some (.fz (im r r (idz r))) := call1 (a := .int r) rfl (lai_ok v.r1 v.r2)
  have c2 : p2 DL.gIx (pFd F_letters_as_images (aCons (p2 DL.gIx (pName 0) (pCon (.int 1))) aNil)) (pCon (.int 3)) [some (.d (im r r ws)), none, none, none, none] = some (.fz (.tup ((idz r).map tw))) := (p2_ok (b := .fz (.int 3)) c rfl).trans rfl
  have a2 : sPar 1 2 (arFz (mPP (p2 DL.gIx (pName 0) (pCon (.int 3)))) (arFz (mPP (p2 DL.gIx (pFd F_letters_as_images (aCons (p2 DL.gIx (pName 0) (pCon (.int 1))) aNil)) (pCon (.int 3)))) arNil)) [some (.d (im r r ws)), none, none, none, none] = .nx (ltE r ws ws none) := by
    have m : mPP (p2 DL.gIx (pFd F_letters_as_images (aCons (p2 DL.gIx (pName 0) (pCon (.int 1))) aNil)) (pCon (.int 3))) [some (.d (im r r ws)), none, none, none, none] = .ok (.d (.tup ((idz r).map tw))) [some (.d (im r r ws)), none, none, none, none] := mpp_fz c2
    show (OA.cons (.fz (.tup (ws.map tw))) ((mPP (p2 DL.gIx (pFd F_letters_as_images (aCons (p2 DL.gIx (pName 0) (pCon (.int 1))) aNil)) (pCon (.int 3))) [some (.d (im r r ws)), none, none, none, none]).arF arNil)).st (put2 1 2) = _
    rw [m]
    rfl
  have a3 : sFor (iRg2 (aCons (pCon (.int 1)) (aCons (p2 DL.gAdd (pCon (.int 24)) (pCon (.int 1))) aNil))) (gNm 3) B_ltn (ltE r ws ws none) = forL (gNm 3) B_ltn (rangeD 1 24) (ltE r ws ws none) := rfl
  have b : B_least_turn [some (.d (im r r ws)), none, none, none, none] = (forL (gNm 3) B_ltn (rangeD 1 24) (ltE r ws ws none)).seq (sRet (mPP (pCon .non))) :=
    (seq_nx a1).trans ((seq_nx a2).trans (by
      show (sFor (iRg2 (aCons (pCon (.int 1)) (aCons (p2 DL.gAdd (pCon (.int 24)) (pCon (.int 1))) aNil))) (gNm 3) B_ltn (ltE r ws ws none)).seq (sRet (mPP (pCon .non))) = _
      rw [a3]))
  exact fn_rt (show B_least_turn (enter 5 [.d (im r r ws)]) = _ from b.trans l) rfl rfl
/-! ### the law's own -/
abbrev B_lln : FS := sSeq (sIf (tMT (tVal (p2 gEq (pName 2) (pName 1)))) (sRet (mPP (pName 3))) sNil) (sSeq (sIf (tMT (tVal (p2 gGt (pCa gSum (aCons (pLc [5] (iSeq (pName 2)) (gNm 5) tAll (pCa gLen (aCons (pName 5) aNil))) aNil)) (pCon (.int 48))))) (sRet (mPP (pCon .non))) sNil) (sSet 2 (mPP (pCa gTuple (aCons (pLc [5] (iSeq (pName 2)) (gNm 5) tAll (pFd F__law_image (aCons (pName 0) (aCons (pName 5) aNil)))) aNil)))))
abbrev llE (r : Int) (ws us : List (List Int)) (t : Option S) : En := [some (.d (im r r ws)), some (.d (.tup ((idz r).map tw))), some (.d (.tup (us.map tw))), t, none, none]
theorem ll_loop {r : Int} {ws : List (List Int)} (v : VI r ws) : ∀ (n : Nat) (k : Int) (us : List (List Int)) (t : Option S), Ok r us →
    ∃ us' t', (forL (gNm 3) B_lln (rangeD k n) (llE r ws us t)).seq (sRet (mPP (pCon .non))) = .rt (.d (ldv (lst ws (idz r) n k us))) (llE r ws us' t')
  | 0, k, us, t, _ => ⟨us, t, rfl⟩
  | n + 1, k, us, t, ok => by
    have r1 := v.r1
    have r2 := v.r2
    have g : gNm 3 (.int k) (llE r ws us t) = some (llE r ws us (some (.d (.int k)))) := rfl
    have l1 : us.length ≤ 1000 := by have := ok.1; omega
    have t1 : tVal (p2 gEq (pName 2) (pName 1)) (llE r ws us (some (.d (.int k)))) = some (decide (us = idz r)) :=
      tVal_ok ((p2_ok (a := .fz (.tup (us.map tw))) (b := .fz (.tup ((idz r).map tw))) rfl rfl).trans (gEq_tws (ok.l4 r2) ((idz_ok r1 r2).1.l4 r2)))
    have t2 : tVal (p2 gGt (pCa gSum (aCons (pLc [5] (iSeq (pName 2)) (gNm 5) tAll (pCa gLen (aCons (pName 5) aNil))) aNil)) (pCon (.int 48))) (llE r ws us (some (.d (.int k)))) = some (decide (48 < tot us)) := by
      refine tVal_ok ((p2_ok (b := .fz (.int 48)) (sum_ok (us := us) (b := true) rfl (by show 5 < 6; omega) l1) rfl).trans ?_)
      show some (RV.fz (.bl (decide (((tot us : Nat) : Int) > 48)))) = _
      congr 3
      rw [decide_eq_decide]
      omega
    rw [range_cons]
    unfold lst
    by_cases h : us = idz r
    · rw [if_pos h]
      rw [decide_eq_true h] at t1
      refine ⟨us, some (.d (.int k)), ?_⟩
      have st : B_lln (llE r ws us (some (.d (.int k)))) = .rt (.d (.int k)) (llE r ws us (some (.d (.int k)))) := seq_rt ((if_t t1).trans (ret_fz (x := .int k) rfl))
      rw [forL_rt g st]
      rfl
    · rw [if_neg h]
      rw [decide_eq_false h] at t1
      by_cases h2 : 48 < tot us
      · rw [if_pos h2]
        rw [decide_eq_true h2] at t2
        refine ⟨us, some (.d (.int k)), ?_⟩
        have st : B_lln (llE r ws us (some (.d (.int k)))) = .rt (.d .non) (llE r ws us (some (.d (.int k)))) := (seq_nx ((if_f t1).trans rfl)).trans (seq_rt ((if_t t2).trans (ret_fz (x := .non) rfl)))
        rw [forL_rt g st]
        rfl
      · rw [if_neg h2]
        rw [decide_eq_false h2] at t2
        have s : sSet 2 (mPP (pCa gTuple (aCons (pLc [5] (iSeq (pName 2)) (gNm 5) tAll (pFd F__law_image (aCons (pName 0) (aCons (pName 5) aNil)))) aNil))) (llE r ws us (some (.d (.int k)))) = .nx (llE r ws (stp ws us) (some (.d (.int k)))) :=
          set_fz (tup_step fim_l v ok (tot_sm h2) (us := us) (b := true) (k := 0) (j := 5) (fi := iSeq (pName 2)) rfl (fun _ => rfl) (by show 5 < 6; omega)) (by show 2 < 6; omega)
        obtain ⟨us', t', ih⟩ := ll_loop v n (k + 1) (stp ws us) (some (.d (.int k))) (stp_ok v ok)
        refine ⟨us', t', ?_⟩
        have st : B_lln (llE r ws us (some (.d (.int k)))) = .nx (llE r ws (stp ws us) (some (.d (.int k)))) := (seq_nx ((if_f t1).trans rfl)).trans ((seq_nx ((if_f t2).trans rfl)).trans s)
        rw [forL_nx g st]
        exact ih
theorem lawleast_ok {r : Int} {ws : List (List Int)} (v : VI r ws) : F__law_least [.d (im r r ws)] = .ok (.d (ldv (lea r ws))) [some (.d (im r r ws))] := by
  obtain ⟨us', t', l⟩ := ll_loop v 24 1 ws none v.ok
  have a1 : sSet 1 (mPP (pCa gTuple (aCons (pLc [4] (iRg2 (aCons (pCon (.int 1)) (aCons (p2 DL.gAdd (p2 DL.gIx (pName 0) (pCon (.int 1))) (pCon (.int 1))) aNil))) (gNm 4) tAll (pTup (aCons (pName 4) aNil))) aNil))) [some (.d (im r r ws)), none, none, none, none, none] = .nx [some (.d (im r r ws)), some (.d (.tup ((idz r).map tw))), none, none, none, none] :=
    set_fz (ids_ok v.r1 v.r2 ws _ _ _ _ _) (by show 1 < 6; omega)
  have a2 : sSet 2 (mPP (p2 DL.gIx (pName 0) (pCon (.int 3)))) [some (.d (im r r ws)), some (.d (.tup ((idz r).map tw))), none, none, none, none] = .nx (llE r ws ws none) := rfl
  have a3 : sFor (iRg2 (aCons (pCon (.int 1)) (aCons (pCon (.int 25)) aNil))) (gNm 3) B_lln (llE r ws ws none) = forL (gNm 3) B_lln (rangeD 1 24) (llE r ws ws none) := rfl
  have b : B__law_least [some (.d (im r r ws)), none, none, none, none, none] = (forL (gNm 3) B_lln (rangeD 1 24) (llE r ws ws none)).seq (sRet (mPP (pCon .non))) :=
    (seq_nx a1).trans ((seq_nx a2).trans (by
      show (sFor (iRg2 (aCons (pCon (.int 1)) (aCons (pCon (.int 25)) aNil))) (gNm 3) B_lln (llE r ws ws none)).seq (sRet (mPP (pCon .non))) = _
      rw [a3]))
  exact fn_rt (show B__law_least (enter 6 [.d (im r r ws)]) = _ from b.trans l) rfl rfl
/-! ### a power by a multiple of the least turn -/
def itr (ws : List (List Int)) : Nat → List (List Int) → List (List Int)
  | 0, us => us
  | n + 1, us => itr ws n (stp ws us)
theorem itr_add (ws : List (List Int)) : ∀ (m n : Nat) (us : List (List Int)), itr ws (m + n) us = itr ws n (itr ws m us)
  | 0, n, us => by rw [Nat.zero_add]; rfl
  | m + 1, n, us => by
    rw [show m + 1 + n = (m + n) + 1 by omega]
    show itr ws (m + n) (stp ws us) = itr ws n (itr ws m (stp ws us))
    exact itr_add ws m n (stp ws us)
theorem itr_mul {ws us : List (List Int)} {m : Nat} (h : itr ws m us = us) : ∀ q : Nat, itr ws (m * q) us = us
  | 0 => rfl
  | q + 1 => by rw [Nat.mul_succ, itr_add, itr_mul h q, h]
theorem rnn_itr {ws : List (List Int)} : ∀ (n : Nat) (us vs : List (List Int)), rnn ws n us = .inl vs → vs = itr ws n us
  | 0, us, vs, h => by cases h; rfl
  | n + 1, us, vs, h => by
    unfold rnn at h
    split at h
    · cases h
    · split at h
      · cases h
      · exact rnn_itr n _ _ h
theorem lst_itr {ws ids : List (List Int)} : ∀ (n : Nat) (k m : Int) (us : List (List Int)), lst ws ids n k us = some m → ∃ q : Nat, m = k + q ∧ itr ws q us = ids
  | 0, k, m, us, h => by cases h
  | n + 1, k, m, us, h => by
    unfold lst at h
    split at h
    · rename_i z
      cases h
      exact ⟨0, by omega, z⟩
    · split at h
      · cases h
      · obtain ⟨q, e1, e2⟩ := lst_itr n _ _ _ h
        exact ⟨q + 1, by omega, e2⟩
theorem lea_itr {r : Int} {ws : List (List Int)} (v : VI r ws) {m : Int} (h : lea r ws = some m) : 1 ≤ m ∧ itr ws m.toNat (idz r) = idz r := by
  obtain ⟨q, e1, e2⟩ := lst_itr 24 1 m ws h
  refine ⟨by omega, ?_⟩
  rw [show m.toNat = q + 1 by omega]
  show itr ws q (stp ws (idz r)) = _
  rw [stp_ids v]
  exact e2
theorem lea_le {ws ids : List (List Int)} : ∀ (n : Nat) (k m : Int) (us : List (List Int)), lst ws ids n k us = some m → m < k + n
  | 0, k, m, us, h => by cases h
  | n + 1, k, m, us, h => by
    unfold lst at h
    split at h
    · cases h
      omega
    · split at h
      · cases h
      · have := lea_le n _ _ _ h
        omega
/-- the letters stay by a multiple -/
theorem pow_ids {r : Int} {ws : List (List Int)} (v : VI r ws) {n m : Int} (h0 : 0 ≤ n) (hm : lea r ws = some m) (hd : n % m = 0) {vs : List (List Int)} (h : rnn ws n.toNat (idz r) = .inl vs) : vs = idz r := by
  obtain ⟨m1, e⟩ := lea_itr v hm
  rw [rnn_itr _ _ _ h]
  obtain ⟨q, hq⟩ := Int.dvd_of_emod_eq_zero hd
  have q0 : 0 ≤ q := by
    refine Decidable.byContradiction fun z => ?_
    have : m * q < 0 := Int.mul_neg_of_pos_of_neg (by omega) (by omega)
    omega
  have : n.toNat = m.toNat * q.toNat := by
    rw [hq, Int.toNat_mul (by omega) q0]
  rw [this]
  exact itr_mul e _
end G76

set_option maxHeartbeats 4000000
namespace G76
open PySem PySem.Spec PyProof.Rows L2 DL
open FG (Red red inv pw push stk)
/-! # drawn images -/
theorem drw {e : En} {p : List D} (e0 : e[0]? = some (some (.lst p))) {f : FP} {n k : Int} {p' : List D} (hf : f e = some (.fz (.int n))) (h : F__law_draw [.lst p, .d (.int n)] = .ok (.d (.int k)) [some (.lst p'), some (.d (.int n))]) :
    mFd 2 F__law_draw (arBw 0 (arFz (mPP f) arNil)) e = .ok (.d (.int k)) (e.set 0 (some (.lst p'))) := by
  simp [mFd, arBw, arFz, mPP, hf, e0, h]
abbrev M_iw : FM := mFd 3 F__law_word (arBw 0 (arFz (mPP (pName 2)) (arFz (mPP (pName 3)) arNil)))
abbrev iE (p : List D) (r : Int) (x y t : Option S) : En := [some (.lst p), some (.d (.int r)), some (.d (.int r)), some (.d (.int 3)), x, y, t]
theorem iw_elt {p : List D} (hp : Pot p) {r : Int} (h1 : 1 ≤ r) (h2 : r ≤ 4) (t : Option S) : ∃ (w : List Int) (p' : List D), Pot p' ∧ GW r w ∧ w.length ≤ 3 ∧ M_iw (iE p r none none t) = .ok (.d (tw w)) (iE p' r none none t) := by
  obtain ⟨w, p', hp', a, b, c, e⟩ := word_ok hp (m := 3) h1 h2 (by omega) (by omega)
  refine ⟨w, p', hp', ⟨a, b⟩, by omega, ?_⟩
  simp [M_iw, e]
theorem iw_list {r : Int} (h1 : 1 ≤ r) (h2 : r ≤ 4) : ∀ (ds : List D) (p : List D), Pot p → ∃ (ws : List (List Int)) (p' : List D), Pot p' ∧ (∀ w ∈ ws, GW r w ∧ w.length ≤ 3) ∧ ws.length = ds.length ∧
    lcM (gNm 6) tAll M_iw [6] ds (iE p r none none none) = .ok (ws.map tw) (iE p' r none none none)
  | [], p, hp => ⟨[], p, hp, (fun _ h => nomatch h), rfl, rfl⟩
  | d :: ds, p, hp => by
    obtain ⟨w, p1, hp1, hw, hl, e1⟩ := iw_elt hp h1 h2 (some (.d d))
    obtain ⟨ws, p2, hp2, hws, hn, e2⟩ := iw_list h1 h2 ds p1 hp1
    refine ⟨w :: ws, p2, hp2, fun j hj => (List.mem_cons.mp hj).elim (fun z => by rw [z]; exact ⟨hw, hl⟩) (hws j), by rw [List.length_cons, List.length_cons, hn], ?_⟩
    unfold lcM
    show (match M_iw (iE p r none none (some (.d d))) with
        | .ok s e2 => OL.cons s.view (lcM (gNm 6) tAll M_iw [6] ds (wipeE e2 [6]))
        | _ => OL.stuck) = _
    rw [e1]
    show OL.cons (S.d (tw w)).view (lcM (gNm 6) tAll M_iw [6] ds (iE p1 r none none none)) = _
    rw [e2]
    rfl
/-- a list's places -/
theorem ixl_ok {us : List (List Int)} {e : En} {i : Nat} (ei : e[i]? = some (some (.lst (us.map tw)))) {f : FP} {k : Int} (hf : f e = some (.fz (.int k))) (h0 : 0 ≤ k) (h1 : k < us.length) : p2 DL.gIx (pName i) f e = some (.fz (tw (us.getD k.toNat []))) := by
  refine (p2_ok (pNl ei) hf).trans ?_
  show (atI (us.map tw) k).map RV.fz = _
  rw [at_ws h0 h1]
  rfl
theorem gset_ok {us : List (List Int)} {e : En} {i : Nat} (ei : e[i]? = some (some (.lst (us.map tw)))) {f : FP} {k : Int} (hf : f e = some (.fz (.int k))) (h0 : 0 ≤ k) (h1 : k < us.length) (v : List Int) : gSet i f (tw v) e = some (e.set i (some (.lst ((us.set k.toNat v).map tw)))) := by
  unfold gSet
  rw [ei]
  show (f e).bind (fun r => r.i?.bind fun k => (ixN (us.map tw).length k).map fun j => e.set i (some (.lst ((us.map tw).set j (tw v))))) = _
  rw [hf]
  show (ixN (us.map tw).length k).map (fun j => e.set i (some (.lst ((us.map tw).set j (tw v))))) = _
  have hk : k.toNat < us.length := by omega
  have q : ixN (us.map tw).length k = some k.toNat := by
    unfold ixN
    rw [if_pos h0, if_pos (by rw [List.length_map]; exact h1)]
  rw [q, List.map_set]
  rfl
theorem getD_mem {us : List (List Int)} {k : Nat} (h : k < us.length) : us.getD k [] ∈ us := by
  rw [List.getD_eq_getElem?_getD, List.getElem?_eq_getElem h]
  exact List.getElem_mem h
theorem tot_set : ∀ {us : List (List Int)} {k : Nat} {v : List Int}, tot (us.set k v) ≤ tot us + v.length
  | [], k, v => by unfold tot; simp
  | w :: us, 0, v => by
    show tot (v :: us) ≤ _
    unfold tot
    rw [List.map_cons, List.sum_cons, List.map_cons, List.sum_cons]
    omega
  | w :: us, k + 1, v => by
    have := tot_set (us := us) (k := k) (v := v)
    show tot (w :: us.set k v) ≤ _
    unfold tot at *
    rw [List.map_cons, List.sum_cons, List.map_cons, List.sum_cons]
    omega
theorem tot_le {us : List (List Int)} {b : Nat} (h : ∀ w ∈ us, w.length ≤ b) : tot us ≤ b * us.length := by
  induction us with
  | nil => exact Nat.zero_le _
  | cons w us ih =>
    have := ih fun v hv => h v (List.mem_cons_of_mem _ hv)
    have := h w List.mem_cons_self
    unfold tot at *
    rw [List.map_cons, List.sum_cons, List.length_cons, Nat.mul_succ]
    omega
theorem at_last {us : List (List Int)} (h : 0 < us.length) : atI (us.map tw) (-1) = some (tw (us.getD (us.length - 1) [])) := by
  rw [atI_neg1 _ (by intro z; rw [List.map_eq_nil_iff.mp z] at h; exact absurd h (by decide))]
  rw [List.getLast?_eq_getElem?, List.length_map, List.getElem?_map, List.getD_eq_getElem?_getD, List.getElem?_eq_getElem (show us.length - 1 < us.length by omega)]
  rfl
theorem images_ok {p : List D} (hp : Pot p) {r : Int} (h1 : 1 ≤ r) (h2 : r ≤ 3) : ∃ (ws : List (List Int)) (p' : List D), Pot p' ∧ VI r ws ∧
    F__law_images [.lst p, .d (.int r), .d (.int r), .d (.int 3)] = .ok (.d (im r r ws)) [some (.lst p'), some (.d (.int r)), some (.d (.int r)), some (.d (.int 3))] := by
  obtain ⟨ws, pa, hp1, hw, hl, e1⟩ := iw_list h1 (by omega) (rangeD 0 r.toNat) p hp
  rw [rangeD_length] at hl
  have hlr : (ws.length : Int) = r := by omega
  obtain ⟨k, pb, hp2, k0, k1, e2⟩ := draw_ok hp1 5 (by omega) (by omega)
  have i62r : i62 r = true := i62_small (by omega) (by omega)
  have a1 : sSetO 4 (mLc [6] (iRg1 (aCons (pName 1) aNil)) (gNm 6) tAll M_iw) (iE p r none none none) = .nx (iE pa r (some (.lst (ws.map tw))) none none) := by
    have c : mLc [6] (iRg1 (aCons (pName 1) aNil)) (gNm 6) tAll M_iw (iE p r none none none) = .ok (.lst (ws.map tw)) (iE pa r none none none) := by
      have q : iRg1 (aCons (pName 1) aNil) (iE p r none none none) = some (rangeD 0 r.toNat, true) := by
        show (if i62 r = true then some (rangeD 0 r.toNat, true) else none) = _
        rw [if_pos i62r]
      unfold mLc
      rw [q]
      show (match lcM (gNm 6) tAll M_iw [6] (rangeD 0 r.toNat) (iE p r none none none) with
        | .ok xs e' => if xs.length ≤ SZ then Out.ok (.lst xs) (unw [6] (iE p r none none none) e') else .stuck
        | _ => .stuck) = _
      rw [e1]
      show (if (ws.map tw).length ≤ SZ then Out.ok (.lst (ws.map tw)) _ else .stuck) = _
      rw [if_pos (by rw [List.length_map]; exact Nat.le_trans (show ws.length ≤ 4 by omega) (by decide))]
      rfl
    unfold sSetO
    rw [c]
    rfl
  have a2 : sSet 5 (mFd 2 F__law_draw (arBw 0 (arFz (mPP (pCon (.int 5))) arNil))) (iE pa r (some (.lst (ws.map tw))) none none) = .nx (iE pb r (some (.lst (ws.map tw))) (some (.d (.int k))) none) := by
    unfold sSet
    rw [drw (p := pa) rfl rfl e2]
    rfl
  have t1 : tVal (p2 gEq (pName 5) (pCon (.int 0))) (iE pb r (some (.lst (ws.map tw))) (some (.d (.int k))) none) = some (decide (k = 0)) :=
    tVal_ok ((p2_ok (a := .fz (.int k)) (b := .fz (.int 0)) rfl rfl).trans (gEq_int (by omega) (by decide)))
  have t2 : tVal (p2 gGt (pName 1) (pCon (.int 1))) (iE pb r (some (.lst (ws.map tw))) (some (.d (.int k))) none) = some (decide (r > 1)) := rfl
  have t : DL.tAnd (tVal (p2 gEq (pName 5) (pCon (.int 0)))) (tVal (p2 gGt (pName 1) (pCon (.int 1)))) (iE pb r (some (.lst (ws.map tw))) (some (.d (.int k))) none) = some (decide (k = 0) && decide (r > 1)) := tAnd_ok t1 fun _ => t2
  have fin : ∀ us : List (List Int), sRet (mPP (pTup (aCons (pCon (.str "images")) (aCons (pName 1) (aCons (pName 2) (aCons (pCa gTuple (aCons (pName 4) aNil)) aNil)))))) (iE pb r (some (.lst (us.map tw))) (some (.d (.int k))) none) = .rt (.d (im r r us)) (iE pb r (some (.lst (us.map tw))) (some (.d (.int k))) none) := fun us =>
    ret_fz (pTup_ok (rs := [.fz (.str "images"), .fz (.int r), .fz (.int r), .fz (.tup (us.map tw))]) rfl rfl (by show 4 ≤ 1000; omega))
  have vi : VI r ws := ⟨h1, by omega, by omega, fun w hw' => (hw w hw').1, by have := tot_le (us := ws) (b := 3) fun w hw' => (hw w hw').2; unfold tot at this; omega⟩
  by_cases c : k = 0 ∧ r > 1
  · obtain ⟨c1, c2⟩ := c
    rw [decide_eq_true c1, decide_eq_true c2] at t
    have m1 := getD_mem (us := ws) (k := 1) (by omega)
    have m2 := getD_mem (us := ws) (k := ws.length - 1) (by omega)
    have u4 : L4 (ws.getD 1 [] ++ ws.getD (ws.length - 1) []) := (vi.l4 _ m1).app (vi.l4 _ m2)
    have l1 := (hw _ m1).2
    have l2 := (hw _ m2).2
    have a3 : sAsg (mPP (pFd F__law_reduced (aCons (p2 DL.gAdd (p2 DL.gIx (pName 4) (pCon (.int 1))) (p2 DL.gIx (pName 4) (p1 gNeg (pCon (.int 1))))) aNil))) (gSet 4 (pCon (.int 0))) (iE pb r (some (.lst (ws.map tw))) (some (.d (.int k))) none) = .nx (iE pb r (some (.lst ((ws.set 0 (red (ws.getD 1 [] ++ ws.getD (ws.length - 1) []))).map tw))) (some (.d (.int k))) none) := by
      have x1 : p2 DL.gIx (pName 4) (pCon (.int 1)) (iE pb r (some (.lst (ws.map tw))) (some (.d (.int k))) none) = some (.fz (tw (ws.getD 1 []))) := ixl_ok (us := ws) (k := 1) rfl rfl (by omega) (by omega)
      have x2 : p2 DL.gIx (pName 4) (p1 gNeg (pCon (.int 1))) (iE pb r (some (.lst (ws.map tw))) (some (.d (.int k))) none) = some (.fz (tw (ws.getD (ws.length - 1) []))) := by
        refine (p2_ok (a := .ow (ws.map tw)) (b := .fz (.int (-1))) rfl rfl).trans ?_
        show (atI (ws.map tw) (-1)).map RV.fz = _
        rw [at_last (by omega)]
        rfl
      have x3 : p2 DL.gAdd (p2 DL.gIx (pName 4) (pCon (.int 1))) (p2 DL.gIx (pName 4) (p1 gNeg (pCon (.int 1)))) (iE pb r (some (.lst (ws.map tw))) (some (.d (.int k))) none) = some (.fz (tw (ws.getD 1 [] ++ ws.getD (ws.length - 1) []))) := (p2_ok x1 x2).trans (gAdd_big _ _ (by omega))
      exact asg_fz (call1 x3 (law_reduced_t u4 (by rw [List.length_append]; omega))) (gset_ok (us := ws) (i := 4) (k := 0) rfl rfl (by omega) (by omega) _)
    refine ⟨_, pb, hp2, ?_, fn_rt (show B__law_images (enter 7 [.lst p, .d (.int r), .d (.int r), .d (.int 3)]) = _ from (seq_nx a1).trans ((seq_nx a2).trans ((seq_nx ((if_t t).trans a3)).trans (fin _)))) rfl rfl⟩
    refine ⟨h1, by omega, by rw [List.length_set]; omega, fun w hw' => ?_, ?_⟩
    · rcases List.mem_or_eq_of_mem_set hw' with z | z
      · exact (hw w z).1
      · rw [z]
        exact gw_red fun i hi => (List.mem_append.mp hi).elim ((hw _ m1).1.2 i) ((hw _ m2).1.2 i)
    · have q1 := tot_set (us := ws) (k := 0) (v := red (ws.getD 1 [] ++ ws.getD (ws.length - 1) []))
      have q2 := tot_le (us := ws) (b := 3) fun w hw' => (hw w hw').2
      have q3 := FG.red_len (ws.getD 1 [] ++ ws.getD (ws.length - 1) [])
      rw [List.length_append] at q3
      unfold tot at q1 q2
      omega
  · have cf : (decide (k = 0) && decide (r > 1)) = false := by
      rw [← Bool.decide_and]
      exact decide_eq_false c
    rw [cf] at t
    exact ⟨ws, pb, hp2, vi, fn_rt (show B__law_images (enter 7 [.lst p, .d (.int r), .d (.int r), .d (.int 3)]) = _ from (seq_nx a1).trans ((seq_nx a2).trans ((seq_nx ((if_f t).trans rfl)).trans (fin _)))) rfl rfl⟩
end G76

set_option maxHeartbeats 4000000
namespace G76
open PySem PySem.Spec PyProof.Rows L2 DL
open FG (Red red inv pw push stk)
/-! # exchanges -/
structure XO (r : Int) (B : Nat) (vs : List (List Int)) : Prop where
  len : vs.length = r.toNat
  gw : ∀ w ∈ vs, GW r w ∧ w.length ≤ B
theorem XO.set {r : Int} {B C : Nat} {vs : List (List Int)} (h : XO r B vs) (k : Nat) {v : List Int} (hv : GW r v) (hl : v.length ≤ C) (hc : B ≤ C) : XO r C (vs.set k v) :=
  ⟨by rw [List.length_set]; exact h.len, fun w hw => (List.mem_or_eq_of_mem_set hw).elim (fun z => ⟨(h.gw w z).1, Nat.le_trans (h.gw w z).2 hc⟩) fun z => by rw [z]; exact ⟨hv, hl⟩⟩
theorem XO.up {r : Int} {B C : Nat} {vs : List (List Int)} (h : XO r B vs) (hc : B ≤ C) : XO r C vs := ⟨h.len, fun w hw => ⟨(h.gw w hw).1, Nat.le_trans (h.gw w hw).2 hc⟩⟩
theorem ifx {ft : FT} {b : Bool} {A : FS} {e : En} {P : En → Prop} (ht : ft e = some b) (h1 : b = true → ∃ e', A e = .nx e' ∧ P e') (h0 : P e) : ∃ e', sIf (tMT ft) A sNil e = .nx e' ∧ P e' := by
  cases b with
  | true =>
    obtain ⟨e', q, hp⟩ := h1 rfl
    exact ⟨e', (if_t ht).trans q, hp⟩
  | false => exact ⟨e, (if_f ht).trans rfl, h0⟩
abbrev xE (p : List D) (r mv : Int) (us : List (List Int)) (t a s w l : Option S) : En := [some (.lst p), some (.d (.int r)), some (.d (.int mv)), some (.d (.lst (us.map tw))), t, a, s, w, l, none, none]
abbrev xF (p : List D) (r mv : Int) (us : List (List Int)) (t : Option S) (a s w : Int) (vs : List (List Int)) : En := xE p r mv us t (some (.d (.int a))) (some (.d (.int s))) (some (.d (.int w))) (some (.lst (vs.map tw)))
section
variable {p : List D} {r mv : Int} {us : List (List Int)} {t : Option S} {a s w : Int} {vs : List (List Int)} {B : Nat}
variable (h1 : 1 ≤ r) (h2 : r ≤ 4) (a0 : 0 ≤ a) (a1 : a < r) (s0 : 0 ≤ s) (s1 : s < r) (w0 : 0 ≤ w) (w1 : w < 4) (hb : B ≤ 1000) (h : XO r B vs)
include w0 w1 in
theorem xt_way (k : Int) (hk : 0 ≤ k ∧ k < 4) : tVal (p2 gEq (pName 7) (pCon (.int k))) (xF p r mv us t a s w vs) = some (decide (w = k)) :=
  tVal_ok ((p2_ok (a := .fz (.int w)) (b := .fz (.int k)) rfl rfl).trans (gEq_int (by omega) (by omega)))
include h2 a0 a1 s0 s1 in
theorem xt_ne : tVal (p2 gNe (pName 5) (pName 6)) (xF p r mv us t a s w vs) = some (!decide (a = s)) :=
  tVal_ok ((p2_ok (a := .fz (.int a)) (b := .fz (.int s)) rfl rfl).trans (gNe_int (by omega) (by omega)))
include h1 a0 a1 h in
theorem x_at : p2 DL.gIx (pName 8) (pName 5) (xF p r mv us t a s w vs) = some (.fz (tw (vs.getD a.toNat []))) :=
  ixl_ok (us := vs) (k := a) rfl rfl a0 (by have := h.len; omega)
include h1 s0 s1 h in
theorem x_sp : p2 DL.gIx (pName 8) (pName 6) (xF p r mv us t a s w vs) = some (.fz (tw (vs.getD s.toNat []))) :=
  ixl_ok (us := vs) (k := s) rfl rfl s0 (by have := h.len; omega)
include h1 a0 a1 h in
theorem x_set (v : List Int) : gSet 8 (pName 5) (tw v) (xF p r mv us t a s w vs) = some (xF p r mv us t a s w (vs.set a.toNat v)) :=
  gset_ok (us := vs) (i := 8) (k := a) rfl rfl a0 (by have := h.len; omega) v
include h1 s0 s1 h in
theorem x_sets (v : List Int) : gSet 8 (pName 6) (tw v) (xF p r mv us t a s w vs) = some (xF p r mv us t a s w (vs.set s.toNat v)) :=
  gset_ok (us := vs) (i := 8) (k := s) rfl rfl s0 (by have := h.len; omega) v
abbrev A_x0 : FS := sAsg (mPP (pFd F__law_undone (aCons (p2 DL.gIx (pName 8) (pName 5)) aNil))) (gSet 8 (pName 5))
abbrev A_x1 : FS := sAsg (mPP (pTup (aCons (p2 DL.gIx (pName 8) (pName 6)) (aCons (p2 DL.gIx (pName 8) (pName 5)) aNil)))) (gTp 2 (gsCons (gSet 8 (pName 5)) (gsCons (gSet 8 (pName 6)) gsNil)))
abbrev A_x2 : FS := sAsg (mPP (pFd F__law_reduced (aCons (p2 DL.gAdd (p2 DL.gIx (pName 8) (pName 5)) (p2 DL.gIx (pName 8) (pName 6))) aNil))) (gSet 8 (pName 5))
abbrev A_x3 : FS := sAsg (mPP (pFd F__law_reduced (aCons (p2 DL.gAdd (pFd F__law_undone (aCons (p2 DL.gIx (pName 8) (pName 6)) aNil)) (p2 DL.gIx (pName 8) (pName 5))) aNil))) (gSet 8 (pName 5))
include h1 h2 a0 a1 w0 w1 hb h in
theorem x0_ok : ∃ e', sIf (tMT (tVal (p2 gEq (pName 7) (pCon (.int 0))))) A_x0 sNil (xF p r mv us t a s w vs) = .nx e' ∧ ∃ vs', XO r B vs' ∧ e' = xF p r mv us t a s w vs' := by
  have ma := getD_mem (us := vs) (k := a.toNat) (by have := h.len; omega)
  have g := h.gw _ ma
  refine ifx (xt_way w0 w1 0 (by omega)) (fun _ => ⟨_, asg_fz (call1 (x_at h1 a0 a1 h) (law_undone_ok (by omega))) (x_set h1 a0 a1 h _), _, h.set _ (gw_inv g.1) (by rw [FG.inv_length]; exact g.2) (Nat.le_refl _), rfl⟩) ⟨vs, h, rfl⟩
include h1 h2 a0 a1 s0 s1 w0 w1 h in
theorem x1_ok : ∃ e', sIf (tMT (tVal (p2 gEq (pName 7) (pCon (.int 1))))) A_x1 sNil (xF p r mv us t a s w vs) = .nx e' ∧ ∃ vs', XO r B vs' ∧ e' = xF p r mv us t a s w vs' := by
  have ma := getD_mem (us := vs) (k := a.toNat) (by have := h.len; omega)
  have ms := getD_mem (us := vs) (k := s.toNat) (by have := h.len; omega)
  have h' : XO r B (vs.set a.toNat (vs.getD s.toNat [])) := h.set _ (h.gw _ ms).1 (h.gw _ ms).2 (Nat.le_refl _)
  refine ifx (xt_way w0 w1 1 (by omega)) (fun _ => ⟨_, asg_fz (tup2_ok (x_sp h1 s0 s1 h) (x_at h1 a0 a1 h)) (e2 := xF p r mv us t a s w ((vs.set a.toNat (vs.getD s.toNat [])).set s.toNat (vs.getD a.toNat []))) ?_, _, h'.set _ (h.gw _ ma).1 (h.gw _ ma).2 (Nat.le_refl _), rfl⟩) ⟨vs, h, rfl⟩
  show (gSet 8 (pName 5) (tw (vs.getD s.toNat [])) (xF p r mv us t a s w vs)).bind (fun e1 => (gSet 8 (pName 6) (tw (vs.getD a.toNat [])) e1).bind fun e2 => some e2) = _
  rw [x_set h1 a0 a1 h]
  show (gSet 8 (pName 6) (tw (vs.getD a.toNat [])) (xF p r mv us t a s w (vs.set a.toNat (vs.getD s.toNat [])))).bind (fun e2 => some e2) = _
  rw [x_sets h1 s0 s1 h']
  rfl
include h1 h2 a0 a1 s0 s1 w0 w1 hb h in
theorem x2_ok : ∃ e', sIf (tMT (DL.tAnd (tVal (p2 gEq (pName 7) (pCon (.int 2)))) (tVal (p2 gNe (pName 5) (pName 6))))) A_x2 sNil (xF p r mv us t a s w vs) = .nx e' ∧ ∃ vs', XO r (2 * B) vs' ∧ e' = xF p r mv us t a s w vs' := by
  have ma := getD_mem (us := vs) (k := a.toNat) (by have := h.len; omega)
  have ms := getD_mem (us := vs) (k := s.toNat) (by have := h.len; omega)
  have ga := h.gw _ ma
  have gs := h.gw _ ms
  have rl := FG.red_len (vs.getD a.toNat [] ++ vs.getD s.toNat [])
  rw [List.length_append] at rl
  refine ifx (tAnd_ok (xt_way w0 w1 2 (by omega)) fun _ => xt_ne h2 a0 a1 s0 s1) (fun _ => ⟨_, asg_fz (call1 ((p2_ok (x_at h1 a0 a1 h) (x_sp h1 s0 s1 h)).trans (gAdd_big _ _ (by omega))) (law_reduced_t ((gw4 h2 ga.1).app (gw4 h2 gs.1)) (by rw [List.length_append]; omega))) (x_set h1 a0 a1 h _), _, h.set _ (gw_red fun i hi => (List.mem_append.mp hi).elim (ga.1.2 i) (gs.1.2 i)) (by omega) (by omega), rfl⟩) ⟨vs, h.up (by omega), rfl⟩
include h1 h2 a0 a1 s0 s1 w0 w1 hb h in
theorem x3_ok : ∃ e', sIf (tMT (DL.tAnd (tVal (p2 gEq (pName 7) (pCon (.int 3)))) (tVal (p2 gNe (pName 5) (pName 6))))) A_x3 sNil (xF p r mv us t a s w vs) = .nx e' ∧ ∃ vs', XO r (2 * B) vs' ∧ e' = xF p r mv us t a s w vs' := by
  have ma := getD_mem (us := vs) (k := a.toNat) (by have := h.len; omega)
  have ms := getD_mem (us := vs) (k := s.toNat) (by have := h.len; omega)
  have ga := h.gw _ ma
  have gs := h.gw _ ms
  have il : (inv (vs.getD s.toNat [])).length ≤ B := by rw [FG.inv_length]; exact gs.2
  have rl := FG.red_len (inv (vs.getD s.toNat []) ++ vs.getD a.toNat [])
  rw [List.length_append] at rl
  have c := call1 (F := F__law_undone) (x_sp (p := p) (mv := mv) (us := us) (t := t) (a := a) (w := w) h1 s0 s1 h) (law_undone_ok (by omega))
  refine ifx (tAnd_ok (xt_way w0 w1 3 (by omega)) fun _ => xt_ne h2 a0 a1 s0 s1) (fun _ => ⟨_, asg_fz (call1 ((p2_ok c (x_at h1 a0 a1 h)).trans (gAdd_big _ _ (by omega))) (law_reduced_t ((gw4 h2 gs.1).inv.app (gw4 h2 ga.1)) (by rw [List.length_append]; omega))) (x_set h1 a0 a1 h _), _, h.set _ (gw_red fun i hi => (List.mem_append.mp hi).elim ((gw_inv gs.1).2 i) (ga.1.2 i)) (by omega) (by omega), rfl⟩) ⟨vs, h.up (by omega), rfl⟩
end
abbrev Z_x : FS := sSet 3 (mIfM (tMT (tVal (p2 gLe (pCa gSum (aCons (pLc [10] (iSeq (pName 8)) (gNm 10) tAll (pCa gLen (aCons (pName 10) aNil))) aNil)) (pCon (.int 24))))) (mMv 8) (mPP (pName 3)))
abbrev B_x : FS := sSeq (sPar3 5 6 7 (arFz (mFd 2 F__law_draw (arBw 0 (arFz (mPP (pName 1)) arNil))) (arFz (mFd 2 F__law_draw (arBw 0 (arFz (mPP (pName 1)) arNil))) (arFz (mFd 2 F__law_draw (arBw 0 (arFz (mPP (pCon (.int 4))) arNil))) arNil))))
  (sSeq (sSetO 8 (mPP (pCa gList (aCons (pName 3) aNil))))
  (sSeq (sIf (tMT (tVal (p2 gEq (pName 7) (pCon (.int 0))))) A_x0 sNil)
  (sSeq (sIf (tMT (tVal (p2 gEq (pName 7) (pCon (.int 1))))) A_x1 sNil)
  (sSeq (sIf (tMT (DL.tAnd (tVal (p2 gEq (pName 7) (pCon (.int 2)))) (tVal (p2 gNe (pName 5) (pName 6))))) A_x2 sNil)
  (sSeq (sIf (tMT (DL.tAnd (tVal (p2 gEq (pName 7) (pCon (.int 3)))) (tVal (p2 gNe (pName 5) (pName 6))))) A_x3 sNil) Z_x)))))
def IX (r mv : Int) (e : En) : Prop := ∃ p us t a s w l, Pot p ∧ XO r 24 us ∧ tot us ≤ 24 ∧ e = xE p r mv us t a s w l
theorem XO.t24 {r : Int} {B : Nat} {us : List (List Int)} (h : XO r B us) (ht : tot us ≤ 24) : XO r 24 us := ⟨h.len, fun w hw => ⟨(h.gw w hw).1, by have := mem_sum hw; unfold tot at ht; omega⟩⟩
theorem bx_ok {r mv : Int} (h1 : 1 ≤ r) (h2 : r ≤ 4) {p : List D} (hp : Pot p) {us : List (List Int)} (ox : XO r 24 us) (ht : tot us ≤ 24) (t a s w l : Option S) : ∃ e', B_x (xE p r mv us t a s w l) = .nx e' ∧ IX r mv e' := by
  obtain ⟨ka, pa, hp1, a0, a1, e1⟩ := draw_ok hp r (by omega) (by omega)
  obtain ⟨ks, pb, hp2, s0, s1, e2⟩ := draw_ok hp1 r (by omega) (by omega)
  obtain ⟨kw, pc, hp3, w0, w1, e3⟩ := draw_ok hp2 4 (by omega) (by omega)
  have q1 : sPar3 5 6 7 (arFz (mFd 2 F__law_draw (arBw 0 (arFz (mPP (pName 1)) arNil))) (arFz (mFd 2 F__law_draw (arBw 0 (arFz (mPP (pName 1)) arNil))) (arFz (mFd 2 F__law_draw (arBw 0 (arFz (mPP (pCon (.int 4))) arNil))) arNil))) (xE p r mv us t a s w l) = .nx (xE pc r mv us t (some (.d (.int ka))) (some (.d (.int ks))) (some (.d (.int kw))) l) := by
    have d1 := drw (e := xE p r mv us t a s w l) (p := p) rfl (f := pName 1) (n := r) rfl e1
    have d2 := drw (e := xE pa r mv us t a s w l) (p := pa) rfl (f := pName 1) (n := r) rfl e2
    have d3 := drw (e := xE pb r mv us t a s w l) (p := pb) rfl (f := pCon (.int 4)) (n := 4) rfl e3
    show ((mFd 2 F__law_draw (arBw 0 (arFz (mPP (pName 1)) arNil)) (xE p r mv us t a s w l)).arF (arFz (mFd 2 F__law_draw (arBw 0 (arFz (mPP (pName 1)) arNil))) (arFz (mFd 2 F__law_draw (arBw 0 (arFz (mPP (pCon (.int 4))) arNil))) arNil))).st (put3 5 6 7) = _
    rw [d1]
    show (OA.cons (.fz (.int ka)) ((mFd 2 F__law_draw (arBw 0 (arFz (mPP (pName 1)) arNil)) (xE pa r mv us t a s w l)).arF (arFz (mFd 2 F__law_draw (arBw 0 (arFz (mPP (pCon (.int 4))) arNil))) arNil))).st (put3 5 6 7) = _
    rw [d2]
    show (OA.cons (.fz (.int ka)) (OA.cons (.fz (.int ks)) ((mFd 2 F__law_draw (arBw 0 (arFz (mPP (pCon (.int 4))) arNil)) (xE pb r mv us t a s w l)).arF arNil))).st (put3 5 6 7) = _
    rw [d3]
    rfl
  have q2 : sSetO 8 (mPP (pCa gList (aCons (pName 3) aNil))) (xE pc r mv us t (some (.d (.int ka))) (some (.d (.int ks))) (some (.d (.int kw))) l) = .nx (xF pc r mv us t ka ks kw us) :=
    setO_fr ((pCa_ok (aCons_ok (rs := []) (pN rfl) rfl)).trans rfl) (by show 8 < 11; omega)
  obtain ⟨_, q3, v1, o1, rfl⟩ := x0_ok (p := pc) (mv := mv) (us := us) (t := t) (s := ks) h1 h2 a0 a1 w0 w1 (by omega) ox
  obtain ⟨_, q4, v2, o2, rfl⟩ := x1_ok (p := pc) (mv := mv) (us := us) (t := t) h1 h2 a0 a1 s0 s1 w0 w1 o1
  obtain ⟨_, q5, v3, o3, rfl⟩ := x2_ok (p := pc) (mv := mv) (us := us) (t := t) h1 h2 a0 a1 s0 s1 w0 w1 (by omega) o2
  obtain ⟨_, q6, v4, o4, rfl⟩ := x3_ok (p := pc) (mv := mv) (us := us) (t := t) h1 h2 a0 a1 s0 s1 w0 w1 (by omega) o3
  have z : ∃ e', Z_x (xF pc r mv us t ka ks kw v4) = .nx e' ∧ IX r mv e' := by
    have c : tVal (p2 gLe (pCa gSum (aCons (pLc [10] (iSeq (pName 8)) (gNm 10) tAll (pCa gLen (aCons (pName 10) aNil))) aNil)) (pCon (.int 24))) (xF pc r mv us t ka ks kw v4) = some (decide (tot v4 ≤ 24)) := by
      refine tVal_ok ((p2_ok (b := .fz (.int 24)) (sum_ok (us := v4) rfl (by show 10 < 11; omega) (by have := o4.len; omega)) rfl).trans ?_)
      show some (RV.fz (.bl (decide (((tot v4 : Nat) : Int) ≤ 24)))) = _
      congr 3
      rw [decide_eq_decide]
      omega
    have m := tMT_ok c
    by_cases y : tot v4 ≤ 24
    · rw [decide_eq_true y] at m
      refine ⟨xE pc r mv v4 t (some (.d (.int ka))) (some (.d (.int ks))) (some (.d (.int kw))) none, ?_, pc, v4, _, _, _, _, _, hp3, o4.t24 y, y, rfl⟩
      unfold Z_x sSet mIfM
      rw [m]
      rfl
    · rw [decide_eq_false y] at m
      refine ⟨xF pc r mv us t ka ks kw v4, ?_, pc, us, _, _, _, _, _, hp3, ox, ht, rfl⟩
      unfold Z_x sSet mIfM
      rw [m]
      rfl
  obtain ⟨e', q7, ie⟩ := z
  exact ⟨e', (seq_nx q1).trans ((seq_nx q2).trans ((seq_nx q3).trans ((seq_nx q4).trans ((seq_nx q5).trans ((seq_nx q6).trans q7))))), ie⟩
theorem exchange_ok {p : List D} (hp : Pot p) {r mv : Int} (h1 : 1 ≤ r) (h2 : r ≤ 3) (m0 : 0 ≤ mv) (m1 : mv ≤ 10) : ∃ (ws : List (List Int)) (p' : List D), Pot p' ∧ VI r ws ∧
    F__law_exchange [.lst p, .d (.int r), .d (.int mv)] = .ok (.d (im r r ws)) [some (.lst p'), some (.d (.int r)), some (.d (.int mv))] := by
  have i62m : i62 mv = true := i62_small (by omega) (by omega)
  have q1 : sSet 3 (mPP (pLc [9] (iRg2 (aCons (pCon (.int 1)) (aCons (p2 DL.gAdd (pName 1) (pCon (.int 1))) aNil))) (gNm 9) tAll (pTup (aCons (pName 9) aNil)))) [some (.lst p), some (.d (.int r)), some (.d (.int mv)), none, none, none, none, none, none, none, none] = .nx (xE p r mv (idz r) none none none none none) := by
    have : r = 1 ∨ r = 2 ∨ r = 3 := by omega
    rcases this with rfl | rfl | rfl <;> rfl
  have x0 : XO r 24 (idz r) ∧ tot (idz r) ≤ 24 := by
    obtain ⟨⟨a, b⟩, _, _⟩ := idz_ok (r := r) h1 (by omega)
    have : r = 1 ∨ r = 2 ∨ r = 3 := by omega
    have c : ∀ w ∈ idz r, Red w ∧ w.length ≤ 1 := by
      rcases this with rfl | rfl | rfl <;> intro w hw <;> simp [idz] at hw
      · subst hw; exact ⟨trivial, by decide⟩
      · rcases hw with rfl | rfl <;> exact ⟨trivial, by decide⟩
      · rcases hw with rfl | rfl | rfl <;> exact ⟨trivial, by decide⟩
    refine ⟨⟨a, fun w hw => ⟨⟨(c w hw).1, b w hw⟩, by have := (c w hw).2; omega⟩⟩, ?_⟩
    have := tot_le (us := idz r) (b := 1) fun w hw => (c w hw).2
    omega
  obtain ⟨e', q2, p', us, t, a, s, w, l, hp', ox, ht, rfl⟩ := for_any (fi := iRg1 (aCons (pName 2) aNil)) (bind := gNm 4) (fb := B_x) (I := IX r mv) (e := xE p r mv (idz r) none none none none none) (ds := rangeD 0 mv.toNat) (by
    show (if i62 mv = true then some (rangeD 0 mv.toNat, true) else none) = _
    rw [if_pos i62m]) (fun d _ e he => by
      obtain ⟨p, us, t, a, s, w, l, hp, ox, ht, rfl⟩ := he
      obtain ⟨e', q, ie⟩ := bx_ok (mv := mv) h1 (by omega) hp ox ht (some (.d d)) a s w l
      exact ⟨_, e', rfl, q, ie⟩) ⟨p, idz r, _, _, _, _, _, hp, x0.1, x0.2, rfl⟩
  have fin : sRet (mPP (pTup (aCons (pCon (.str "images")) (aCons (pName 1) (aCons (pName 1) (aCons (pCa gTuple (aCons (pName 3) aNil)) aNil)))))) (xE p' r mv us t a s w l) = .rt (.d (im r r us)) (xE p' r mv us t a s w l) :=
    ret_fz (pTup_ok (rs := [.fz (.str "images"), .fz (.int r), .fz (.int r), .fz (.tup (us.map tw))]) rfl rfl (by show 4 ≤ 1000; omega))
  refine ⟨us, p', hp', ⟨h1, by omega, ox.len, fun w hw => (ox.gw w hw).1, by unfold tot at ht; omega⟩, fn_rt (show B__law_exchange (enter 11 [.lst p, .d (.int r), .d (.int mv)]) = _ from (seq_nx q1).trans ((seq_nx q2).trans fin)) rfl rfl⟩
end G76

set_option maxHeartbeats 4000000
namespace G76
open PySem PySem.Spec PyProof.Rows L2 DL
open FG (Red red inv pw push stk)
/-! # letters only -/
/-- all that may be drawn of letters that are left -/
def cand : Nat → List Int → List (List Int)
  | 0, _ => [[]]
  | n + 1, L => (List.range L.length).flatMap fun k => [1, -1].flatMap fun s => (cand n (L.eraseIdx k)).map fun w => (s * L.getD k 0) :: w
theorem cand_mem {n : Nat} {L : List Int} {k : Nat} (hk : k < L.length) {s : Int} (hs : s = 1 ∨ s = -1) {w : List Int} (hw : w ∈ cand n (L.eraseIdx k)) : (s * L.getD k 0) :: w ∈ cand (n + 1) L := by
  unfold cand
  refine List.mem_flatMap.mpr ⟨k, List.mem_range.mpr hk, List.mem_flatMap.mpr ⟨s, by rcases hs with rfl | rfl <;> simp, List.mem_map.mpr ⟨w, hw, rfl⟩⟩⟩
abbrev lE (p : List D) (r : Int) (L : List Int) (us : List (List Int)) (t x : Option S) : En := [some (.lst p), some (.d (.int r)), some (.lst (dints L)), some (.lst (us.map tw)), t, x]
abbrev A_lo : FS := sSet 5 (mMt 2 gPopAt (mFd 2 F__law_draw (arBw 0 (arFz (mPP (pCa gLen (aCons (pName 2) aNil))) arNil))))
abbrev M_sg : FM := mIfM (m2 gEq (mFd 2 F__law_draw (arBw 0 (arFz (mPP (pCon (.int 2))) arNil))) (mPP (pCon (.int 0)))) (mPP (pName 5)) (mPP (p2 DL.gSub (pCon (.int 0)) (pName 5)))
abbrev B_lo : FS := sSeq A_lo (sExpr (mMt 3 gApp (mTup (lCons M_sg lNil))))
theorem seqIx {k : Int} {n : Nat} (h0 : 0 ≤ k) (h1 : k < n) : seqIndex? k n = some k.toNat := by
  have n0 : ¬ k < 0 := by omega
  unfold seqIndex?
  simp [h0, h1, n0]
theorem er_map : ∀ (L : List Int) (k : Nat), (L.map D.int).eraseIdx k = (L.eraseIdx k).map D.int
  | [], k => rfl
  | i :: L, 0 => rfl
  | i :: L, k + 1 => by
    show D.int i :: (L.map D.int).eraseIdx k = D.int i :: (L.eraseIdx k).map D.int
    rw [er_map L k]
theorem lo_pop {p : List D} (hp : Pot p) {r : Int} {L : List Int} (hL : 0 < L.length ∧ L.length ≤ 4) (us : List (List Int)) (t x : Option S) : ∃ (k : Nat) (p' : List D), Pot p' ∧ k < L.length ∧
    A_lo (lE p r L us t x) = .nx (lE p' r (L.eraseIdx k) us t (some (.d (.int (L.getD k 0))))) := by
  obtain ⟨k, p', hp', k0, k1, e⟩ := draw_ok hp (L.length : Int) (by omega) (by omega)
  have hk : k.toNat < L.length := by omega
  refine ⟨k.toNat, p', hp', hk, ?_⟩
  have d := drw (e := lE p r L us t x) (p := p) rfl (f := pCa gLen (aCons (pName 2) aNil)) (n := (L.length : Int)) (by
    refine (pCa_ok (aCons_ok (rs := []) (pNl rfl) rfl)).trans ?_
    show some (RV.fz (.int ((dints L).length : Nat))) = _
    rw [dints_length]) e
  have c : mMt 2 gPopAt (mFd 2 F__law_draw (arBw 0 (arFz (mPP (pCa gLen (aCons (pName 2) aNil))) arNil))) (lE p r L us t x) = .ok (.d (.int (L.getD k.toNat 0))) (lE p' r (L.eraseIdx k.toNat) us t x) := by
    show ((mFd 2 F__law_draw (arBw 0 (arFz (mPP (pCa gLen (aCons (pName 2) aNil))) arNil)) (lE p r L us t x)).bind (chg 2 gPopAt)) = _
    rw [d]
    show (match gPopAt (dints L) (.int k) with
      | some (y, ys) => Out.ok (.d y) ((lE p' r L us t x).set 2 (some (.lst ys)))
      | none => .stuck) = _
    have g : gPopAt (dints L) (.int k) = some (.int (L.getD k.toNat 0), dints (L.eraseIdx k.toNat)) := by
      show (if -(2 ^ 63) ≤ k ∧ k < 2 ^ 63 then (seqIndex? k (dints L).length).bind fun j => ((dints L)[j]?).map fun y => (y, (dints L).eraseIdx j) else none) = _
      rw [if_pos (by constructor <;> omega), dints_length, seqIx k0 k1]
      show ((dints L)[k.toNat]?).map (fun y => (y, (dints L).eraseIdx k.toNat)) = _
      have q : (dints L)[k.toNat]? = some (.int (L.getD k.toNat 0)) := by
        show (L.map D.int)[k.toNat]? = _
        rw [List.getElem?_map, List.getD_eq_getElem?_getD, List.getElem?_eq_getElem hk]
        rfl
      rw [q]
      show some (D.int (L.getD k.toNat 0), (L.map D.int).eraseIdx k.toNat) = _
      rw [er_map]
      rfl
    rw [g]
    rfl
  unfold A_lo sSet
  rw [c]
  rfl
theorem lo_app {p : List D} (hp : Pot p) {r : Int} {L : List Int} {us : List (List Int)} (hz : us.length ≤ 100) (t : Option S) {i : Int} (hi : -100 ≤ i ∧ i ≤ 100) : ∃ (s : Int) (p' : List D), Pot p' ∧ (s = 1 ∨ s = -1) ∧
    sExpr (mMt 3 gApp (mTup (lCons M_sg lNil))) (lE p r L us t (some (.d (.int i)))) = .nx (lE p' r L (us ++ [[s * i]]) t (some (.d (.int i)))) := by
  obtain ⟨k, p', hp', k0, k1, e⟩ := draw_ok hp 2 (by omega) (by omega)
  have d := drw (e := lE p r L us t (some (.d (.int i)))) (p := p) rfl (f := pCon (.int 2)) (n := 2) rfl e
  have q : m2 gEq (mFd 2 F__law_draw (arBw 0 (arFz (mPP (pCon (.int 2))) arNil))) (mPP (pCon (.int 0))) (lE p r L us t (some (.d (.int i)))) = .ok (.d (.bl (decide (k = 0)))) (lE p' r L us t (some (.d (.int i)))) :=
    m2_fz d rfl (gEq_int (by omega) (by decide))
  have fin : ∀ j : Int, M_sg (lE p r L us t (some (.d (.int i)))) = .ok (.d (.int j)) (lE p' r L us t (some (.d (.int i)))) → sExpr (mMt 3 gApp (mTup (lCons M_sg lNil))) (lE p r L us t (some (.d (.int i)))) = .nx (lE p' r L (us ++ [[j]]) t (some (.d (.int i)))) := fun j hj => by
    have a : mTup (lCons M_sg lNil) (lE p r L us t (some (.d (.int i)))) = .ok (.d (tw [j])) (lE p' r L us t (some (.d (.int i)))) := by
      unfold mTup
      rw [lCons_m (fs := lNil) hj (xs := []) rfl]
      show rvO (if 1 ≤ SZ then some (.fz (tw [j])) else none) _ = _
      rw [if_pos (by decide)]
      rfl
    show ((((mTup (lCons M_sg lNil)) (lE p r L us t (some (.d (.int i))))).bind (chg 3 gApp)).st fun _ e1 => Fl.nx e1) = _
    rw [a]
    have z : (us.map tw).length < SZ := by rw [List.length_map]; exact Nat.lt_of_le_of_lt hz (by decide)
    show ((match gApp (us.map tw) (tw [j]) with
      | some (y, ys) => Out.ok (.d y) ((lE p' r L us t (some (.d (.int i)))).set 3 (some (.lst ys)))
      | none => .stuck).st fun _ e1 => Fl.nx e1) = _
    have g : gApp (us.map tw) (tw [j]) = some (.non, (us ++ [[j]]).map tw) := by
      unfold gApp
      rw [if_pos z, List.map_append]
      rfl
    rw [g]
    rfl
  by_cases h : k = 0
  · refine ⟨1, p', hp', .inl rfl, fin _ ?_⟩
    rw [decide_eq_true h] at q
    unfold M_sg mIfM
    rw [q, Int.one_mul]
    rfl
  · refine ⟨-1, p', hp', .inr rfl, fin _ ?_⟩
    rw [decide_eq_false h] at q
    unfold M_sg mIfM
    rw [q]
    show Out.ok (.d (.int (0 - i))) _ = _
    rw [show 0 - i = -1 * i by omega]
theorem lo_loop {r : Int} : ∀ (n : Nat) (ds : List D) (L : List Int) (us : List (List Int)) (p : List D) (t x : Option S), ds.length = n → L.length = n → n ≤ 4 → (∀ i ∈ L, -100 ≤ i ∧ i ≤ 100) → us.length + n ≤ 50 → Pot p →
    ∃ (w : List Int) (p' : List D) (t' x' : Option S), w ∈ cand n L ∧ Pot p' ∧ ∃ L', forL (gNm 4) B_lo ds (lE p r L us t x) = .nx (lE p' r L' (us ++ w.map fun i => [i]) t' x')
  | 0, [], L, us, p, t, x, _, _, _, _, _, hp => ⟨[], p, t, x, by simp [cand], hp, L, by simp⟩
  | n + 1, d :: ds, L, us, p, t, x, hd, hL, hn, hi, hu, hp => by
    obtain ⟨k, p1, hp1, hk, e1⟩ := lo_pop hp (r := r) (L := L) ⟨by omega, by omega⟩ us (some (.d d)) x
    have mem : L.getD k 0 ∈ L := by
      rw [List.getD_eq_getElem?_getD, List.getElem?_eq_getElem hk]
      exact List.getElem_mem hk
    obtain ⟨s, pq, hpq, hs, e2⟩ := lo_app hp1 (r := r) (L := L.eraseIdx k) (us := us) (by omega) (some (.d d)) (hi _ mem)
    obtain ⟨w, p3, t', x', hw, hp3, L', e3⟩ := lo_loop (r := r) n ds (L.eraseIdx k) (us ++ [[s * L.getD k 0]]) pq (some (.d d)) (some (.d (.int (L.getD k 0)))) (by simpa using hd) (by rw [List.length_eraseIdx_of_lt hk, hL]; rfl) (by omega) (fun i hi' => hi i (List.mem_of_mem_eraseIdx hi')) (by rw [List.length_append]; simp; omega) hpq
    refine ⟨(s * L.getD k 0) :: w, p3, t', x', cand_mem hk hs hw, hp3, L', ?_⟩
    rw [forL_nx (show gNm 4 d (lE p r L us t x) = some (lE p r L us (some (.d d)) x) from rfl) (show B_lo (lE p r L us (some (.d d)) x) = _ from (seq_nx e1).trans e2), e3, List.append_assoc]
    rfl
def upto (r : Int) : List Int := (List.range r.toNat).map fun (k : Nat) => (k : Int) + 1
def viB (r : Int) (w : List Int) : Bool := decide (w.length = r.toNat) && w.all (letB r)
theorem cand_vi : ((cand 1 (upto 1)).all (viB 1) && (cand 2 (upto 2)).all (viB 2) && (cand 3 (upto 3)).all (viB 3) && (cand 4 (upto 4)).all (viB 4)) = true := by decide +kernel
theorem tot_ones : ∀ w : List Int, tot (w.map fun i => [i]) = w.length
  | [] => rfl
  | i :: w => by
    have := tot_ones w
    unfold tot at *
    rw [List.map_cons, List.map_cons, List.sum_cons, this, List.length_cons]
    show 0 + 1 + w.length = w.length + 1
    omega
theorem vi_ones {r : Int} (h1 : 1 ≤ r) (h2 : r ≤ 4) {w : List Int} (h : viB r w = true) : VI r (w.map fun i => [i]) := by
  obtain ⟨a, b⟩ := Bool.and_eq_true_iff.mp h
  have a := of_decide_eq_true a
  refine ⟨h1, h2, by rw [List.length_map]; exact a, fun v hv => ?_, ?_⟩
  · obtain ⟨i, hi, rfl⟩ := List.mem_map.mp hv
    exact ⟨trivial, fun j hj => by rw [List.mem_singleton.mp hj]; exact letB_iff.mp (List.all_eq_true.mp b i hi)⟩
  · have := tot_ones w
    unfold tot at this
    rw [this]
    omega
theorem letters_ok {p : List D} (hp : Pot p) {r : Int} (h1 : 1 ≤ r) (h2 : r ≤ 4) : ∃ (w : List Int) (p' : List D), Pot p' ∧ w ∈ cand r.toNat (upto r) ∧ VI r (w.map fun i => [i]) ∧
    F__law_letters_only [.lst p, .d (.int r)] = .ok (.d (im r r (w.map fun i => [i]))) [some (.lst p'), some (.d (.int r))] := by
  have i62r : i62 r = true := i62_small (by omega) (by omega)
  have a1 : sParO 2 3 (mPP (pLr2 (pCon (.int 1)) (p2 DL.gAdd (pName 1) (pCon (.int 1))))) (mPP (pLst aNil)) [some (.lst p), some (.d (.int r)), none, none, none, none] = .nx (lE p r (upto r) [] none none) := by
    rcases r_cases h1 h2 with rfl | rfl | rfl | rfl <;> rfl
  obtain ⟨w, p', t', x', hw, hp', L', e⟩ := lo_loop (r := r) r.toNat (rangeD 0 r.toNat) (upto r) [] p none none (rangeD_length 0 _) (by unfold upto; simp) (by omega) (fun i hi => by
    obtain ⟨k, hk, rfl⟩ := List.mem_map.mp hi
    have := List.mem_range.mp hk
    omega) (by rw [List.length_nil]; omega) hp
  have a2 : sFor (iRg1 (aCons (pName 1) aNil)) (gNm 4) B_lo (lE p r (upto r) [] none none) = .nx (lE p' r L' (w.map fun i => [i]) t' x') := by
    have : iRg1 (aCons (pName 1) aNil) (lE p r (upto r) [] none none) = some (rangeD 0 r.toNat, true) := by
      show (if i62 r = true then some (rangeD 0 r.toNat, true) else none) = _
      rw [if_pos i62r]
    unfold sFor
    rw [this]
    exact e
  have fin : sRet (mPP (pTup (aCons (pCon (.str "images")) (aCons (pName 1) (aCons (pName 1) (aCons (pCa gTuple (aCons (pName 3) aNil)) aNil)))))) (lE p' r L' (w.map fun i => [i]) t' x') = .rt (.d (im r r (w.map fun i => [i]))) (lE p' r L' (w.map fun i => [i]) t' x') :=
    ret_fz (pTup_ok (rs := [.fz (.str "images"), .fz (.int r), .fz (.int r), .fz (.tup ((w.map fun i => [i]).map tw))]) rfl rfl (by show 4 ≤ 1000; omega))
  have v : viB r w = true := by
    obtain ⟨a, a4⟩ := Bool.and_eq_true_iff.mp cand_vi
    obtain ⟨a, a3⟩ := Bool.and_eq_true_iff.mp a
    obtain ⟨c1, c2⟩ := Bool.and_eq_true_iff.mp a
    rcases r_cases h1 h2 with rfl | rfl | rfl | rfl
    · exact List.all_eq_true.mp c1 w hw
    · exact List.all_eq_true.mp c2 w hw
    · exact List.all_eq_true.mp a3 w hw
    · exact List.all_eq_true.mp a4 w hw
  exact ⟨w, p', hp', hw, vi_ones h1 h2 v, fn_rt (show B__law_letters_only (enter 6 [.lst p, .d (.int r)]) = _ from (seq_nx a1).trans ((seq_nx a2).trans fin)) rfl rfl⟩
end G76

set_option maxHeartbeats 4000000
namespace G76
open PySem PySem.Spec PyProof.Rows L2 DL
/-! # rings of letters: all changes of four letters -/
def chk4 (w : List Int) : Bool := match F__law_rings [.d (im 4 4 (w.map fun i => [i]))], lea 4 (w.map fun i => [i]) with
  | .ok (.d (.int m)) _, some k => decide (m = k)
  | _, _ => false
theorem ck_0p : ((cand 3 ((upto 4).eraseIdx 0)).all fun w => chk4 ((1 * (upto 4).getD 0 0) :: w)) = true := by decide +kernel
theorem ck_0m : ((cand 3 ((upto 4).eraseIdx 0)).all fun w => chk4 ((-1 * (upto 4).getD 0 0) :: w)) = true := by decide +kernel
theorem ck_1p : ((cand 3 ((upto 4).eraseIdx 1)).all fun w => chk4 ((1 * (upto 4).getD 1 0) :: w)) = true := by decide +kernel
theorem ck_1m : ((cand 3 ((upto 4).eraseIdx 1)).all fun w => chk4 ((-1 * (upto 4).getD 1 0) :: w)) = true := by decide +kernel
theorem ck_2p : ((cand 3 ((upto 4).eraseIdx 2)).all fun w => chk4 ((1 * (upto 4).getD 2 0) :: w)) = true := by decide +kernel
theorem ck_2m : ((cand 3 ((upto 4).eraseIdx 2)).all fun w => chk4 ((-1 * (upto 4).getD 2 0) :: w)) = true := by decide +kernel
theorem ck_3p : ((cand 3 ((upto 4).eraseIdx 3)).all fun w => chk4 ((1 * (upto 4).getD 3 0) :: w)) = true := by decide +kernel
theorem ck_3m : ((cand 3 ((upto 4).eraseIdx 3)).all fun w => chk4 ((-1 * (upto 4).getD 3 0) :: w)) = true := by decide +kernel
theorem ck4 {w : List Int} (h : w ∈ cand 4 (upto 4)) : chk4 w = true := by
  unfold cand at h
  obtain ⟨k, hk, h⟩ := List.mem_flatMap.mp h
  obtain ⟨s, hs, h⟩ := List.mem_flatMap.mp h
  obtain ⟨w', hw, rfl⟩ := List.mem_map.mp h
  have hk : k < 4 := List.mem_range.mp hk
  have hs : s = 1 ∨ s = -1 := by simpa using hs
  have : k = 0 ∨ k = 1 ∨ k = 2 ∨ k = 3 := by omega
  rcases this with rfl | rfl | rfl | rfl <;> rcases hs with rfl | rfl
  · exact List.all_eq_true.mp ck_0p w' hw
  · exact List.all_eq_true.mp ck_0m w' hw
  · exact List.all_eq_true.mp ck_1p w' hw
  · exact List.all_eq_true.mp ck_1m w' hw
  · exact List.all_eq_true.mp ck_2p w' hw
  · exact List.all_eq_true.mp ck_2m w' hw
  · exact List.all_eq_true.mp ck_3p w' hw
  · exact List.all_eq_true.mp ck_3m w' hw
theorem rings_ok {w : List Int} (h : w ∈ cand 4 (upto 4)) : ∃ (m : Int) (e : En), F__law_rings [.d (im 4 4 (w.map fun i => [i]))] = .ok (.d (.int m)) e ∧ lea 4 (w.map fun i => [i]) = some m := by
  have q := ck4 h
  unfold chk4 at q
  split at q
  · rename_i m e k h1 h2
    exact ⟨m, e, h1, by rw [h2, of_decide_eq_true q]⟩
  · cases q
end G76

set_option maxHeartbeats 4000000
namespace G76
open PySem PySem.Spec PyProof.Rows L2 DL
open FG (Red red inv pw push stk)
/-! # words left -/
def fw (r : Int) : Nat → List (List Int)
  | 0 => [[]]
  | n + 1 => (fw r n).flatMap fun w => ((lets r).filter fun i => decide (w = []) || !decide (w.getLastD 0 + i = 0)).map fun i => w ++ [i]
def RL (r l : Int) : Prop := (r = 1 ∧ 0 ≤ l ∧ l ≤ 4) ∨ (r = 2 ∧ 0 ≤ l ∧ l ≤ 3) ∨ (r = 3 ∧ 0 ≤ l ∧ l ≤ 2)
theorem RL.cases {r l : Int} (h : RL r l) : (r = 1 ∧ l = 0) ∨ (r = 1 ∧ l = 1) ∨ (r = 1 ∧ l = 2) ∨ (r = 1 ∧ l = 3) ∨ (r = 1 ∧ l = 4) ∨ (r = 2 ∧ l = 0) ∨ (r = 2 ∧ l = 1) ∨ (r = 2 ∧ l = 2) ∨ (r = 2 ∧ l = 3) ∨ (r = 3 ∧ l = 0) ∨ (r = 3 ∧ l = 1) ∨ (r = 3 ∧ l = 2) := by
  unfold RL at h
  omega
abbrev B_kw : FS := sSet 2 (mPP (pFd F_words_from (aCons (pName 2) (aCons (p2 DL.gIx (pName 0) (pCon (.int 1))) aNil))))
theorem fw_1_0 : F_first_words [.d (.int 1), .d (.int 0)] = .ok (.d (.lst ((fw 1 0).map tw))) [some (.d (.int 1)), some (.d (.int 0))] := by kernel_rfl
theorem kw_1_0 (ws : List (List Int)) : sFor (iRg1 (aCons (pName 1) aNil)) (gNm 3) B_kw [some (.d (im 1 1 ws)), some (.d (.int 0)), some (.d (.lst [tw []])), none, none] = .nx [some (.d (im 1 1 ws)), some (.d (.int 0)), some (.d (.lst ((fw 1 0).map tw))), none, none] := by kernel_rfl
theorem wa_1_0 (ws : List (List Int)) : sExpr (mPP (pFd F_want_at_most (aCons (pCon (.str "words")) (aCons (pCon (.int 400)) (aCons (pFd F_many_words (aCons (p2 DL.gIx (pName 0) (pCon (.int 1))) (aCons (pName 1) aNil))) aNil))))) [some (.d (im 1 1 ws)), some (.d (.int 0))] = .nx [some (.d (im 1 1 ws)), some (.d (.int 0))] := by kernel_rfl
theorem fl_1_0 : ((fw 1 0).all fun w => w.all (letB 1) && decide (w.length ≤ 300)) = true ∧ (fw 1 0).length ≤ 400 := by decide +kernel
theorem fw_1_1 : F_first_words [.d (.int 1), .d (.int 1)] = .ok (.d (.lst ((fw 1 1).map tw))) [some (.d (.int 1)), some (.d (.int 1))] := by kernel_rfl
theorem kw_1_1 (ws : List (List Int)) : sFor (iRg1 (aCons (pName 1) aNil)) (gNm 3) B_kw [some (.d (im 1 1 ws)), some (.d (.int 1)), some (.d (.lst [tw []])), none, none] = .nx [some (.d (im 1 1 ws)), some (.d (.int 1)), some (.d (.lst ((fw 1 1).map tw))), some (.d (.int 0)), none] := by kernel_rfl
theorem wa_1_1 (ws : List (List Int)) : sExpr (mPP (pFd F_want_at_most (aCons (pCon (.str "words")) (aCons (pCon (.int 400)) (aCons (pFd F_many_words (aCons (p2 DL.gIx (pName 0) (pCon (.int 1))) (aCons (pName 1) aNil))) aNil))))) [some (.d (im 1 1 ws)), some (.d (.int 1))] = .nx [some (.d (im 1 1 ws)), some (.d (.int 1))] := by kernel_rfl
theorem fl_1_1 : ((fw 1 1).all fun w => w.all (letB 1) && decide (w.length ≤ 300)) = true ∧ (fw 1 1).length ≤ 400 := by decide +kernel
theorem fw_1_2 : F_first_words [.d (.int 1), .d (.int 2)] = .ok (.d (.lst ((fw 1 2).map tw))) [some (.d (.int 1)), some (.d (.int 2))] := by kernel_rfl
theorem kw_1_2 (ws : List (List Int)) : sFor (iRg1 (aCons (pName 1) aNil)) (gNm 3) B_kw [some (.d (im 1 1 ws)), some (.d (.int 2)), some (.d (.lst [tw []])), none, none] = .nx [some (.d (im 1 1 ws)), some (.d (.int 2)), some (.d (.lst ((fw 1 2).map tw))), some (.d (.int 1)), none] := by kernel_rfl
theorem wa_1_2 (ws : List (List Int)) : sExpr (mPP (pFd F_want_at_most (aCons (pCon (.str "words")) (aCons (pCon (.int 400)) (aCons (pFd F_many_words (aCons (p2 DL.gIx (pName 0) (pCon (.int 1))) (aCons (pName 1) aNil))) aNil))))) [some (.d (im 1 1 ws)), some (.d (.int 2))] = .nx [some (.d (im 1 1 ws)), some (.d (.int 2))] := by kernel_rfl
theorem fl_1_2 : ((fw 1 2).all fun w => w.all (letB 1) && decide (w.length ≤ 300)) = true ∧ (fw 1 2).length ≤ 400 := by decide +kernel
theorem fw_1_3 : F_first_words [.d (.int 1), .d (.int 3)] = .ok (.d (.lst ((fw 1 3).map tw))) [some (.d (.int 1)), some (.d (.int 3))] := by kernel_rfl
theorem kw_1_3 (ws : List (List Int)) : sFor (iRg1 (aCons (pName 1) aNil)) (gNm 3) B_kw [some (.d (im 1 1 ws)), some (.d (.int 3)), some (.d (.lst [tw []])), none, none] = .nx [some (.d (im 1 1 ws)), some (.d (.int 3)), some (.d (.lst ((fw 1 3).map tw))), some (.d (.int 2)), none] := by kernel_rfl
theorem wa_1_3 (ws : List (List Int)) : sExpr (mPP (pFd F_want_at_most (aCons (pCon (.str "words")) (aCons (pCon (.int 400)) (aCons (pFd F_many_words (aCons (p2 DL.gIx (pName 0) (pCon (.int 1))) (aCons (pName 1) aNil))) aNil))))) [some (.d (im 1 1 ws)), some (.d (.int 3))] = .nx [some (.d (im 1 1 ws)), some (.d (.int 3))] := by kernel_rfl
theorem fl_1_3 : ((fw 1 3).all fun w => w.all (letB 1) && decide (w.length ≤ 300)) = true ∧ (fw 1 3).length ≤ 400 := by decide +kernel
theorem fw_1_4 : F_first_words [.d (.int 1), .d (.int 4)] = .ok (.d (.lst ((fw 1 4).map tw))) [some (.d (.int 1)), some (.d (.int 4))] := by kernel_rfl
theorem kw_1_4 (ws : List (List Int)) : sFor (iRg1 (aCons (pName 1) aNil)) (gNm 3) B_kw [some (.d (im 1 1 ws)), some (.d (.int 4)), some (.d (.lst [tw []])), none, none] = .nx [some (.d (im 1 1 ws)), some (.d (.int 4)), some (.d (.lst ((fw 1 4).map tw))), some (.d (.int 3)), none] := by kernel_rfl
theorem wa_1_4 (ws : List (List Int)) : sExpr (mPP (pFd F_want_at_most (aCons (pCon (.str "words")) (aCons (pCon (.int 400)) (aCons (pFd F_many_words (aCons (p2 DL.gIx (pName 0) (pCon (.int 1))) (aCons (pName 1) aNil))) aNil))))) [some (.d (im 1 1 ws)), some (.d (.int 4))] = .nx [some (.d (im 1 1 ws)), some (.d (.int 4))] := by kernel_rfl
theorem fl_1_4 : ((fw 1 4).all fun w => w.all (letB 1) && decide (w.length ≤ 300)) = true ∧ (fw 1 4).length ≤ 400 := by decide +kernel
theorem fw_2_0 : F_first_words [.d (.int 2), .d (.int 0)] = .ok (.d (.lst ((fw 2 0).map tw))) [some (.d (.int 2)), some (.d (.int 0))] := by kernel_rfl
theorem kw_2_0 (ws : List (List Int)) : sFor (iRg1 (aCons (pName 1) aNil)) (gNm 3) B_kw [some (.d (im 2 2 ws)), some (.d (.int 0)), some (.d (.lst [tw []])), none, none] = .nx [some (.d (im 2 2 ws)), some (.d (.int 0)), some (.d (.lst ((fw 2 0).map tw))), none, none] := by kernel_rfl
theorem wa_2_0 (ws : List (List Int)) : sExpr (mPP (pFd F_want_at_most (aCons (pCon (.str "words")) (aCons (pCon (.int 400)) (aCons (pFd F_many_words (aCons (p2 DL.gIx (pName 0) (pCon (.int 1))) (aCons (pName 1) aNil))) aNil))))) [some (.d (im 2 2 ws)), some (.d (.int 0))] = .nx [some (.d (im 2 2 ws)), some (.d (.int 0))] := by kernel_rfl
theorem fl_2_0 : ((fw 2 0).all fun w => w.all (letB 2) && decide (w.length ≤ 300)) = true ∧ (fw 2 0).length ≤ 400 := by decide +kernel
theorem fw_2_1 : F_first_words [.d (.int 2), .d (.int 1)] = .ok (.d (.lst ((fw 2 1).map tw))) [some (.d (.int 2)), some (.d (.int 1))] := by kernel_rfl
theorem kw_2_1 (ws : List (List Int)) : sFor (iRg1 (aCons (pName 1) aNil)) (gNm 3) B_kw [some (.d (im 2 2 ws)), some (.d (.int 1)), some (.d (.lst [tw []])), none, none] = .nx [some (.d (im 2 2 ws)), some (.d (.int 1)), some (.d (.lst ((fw 2 1).map tw))), some (.d (.int 0)), none] := by kernel_rfl
theorem wa_2_1 (ws : List (List Int)) : sExpr (mPP (pFd F_want_at_most (aCons (pCon (.str "words")) (aCons (pCon (.int 400)) (aCons (pFd F_many_words (aCons (p2 DL.gIx (pName 0) (pCon (.int 1))) (aCons (pName 1) aNil))) aNil))))) [some (.d (im 2 2 ws)), some (.d (.int 1))] = .nx [some (.d (im 2 2 ws)), some (.d (.int 1))] := by kernel_rfl
theorem fl_2_1 : ((fw 2 1).all fun w => w.all (letB 2) && decide (w.length ≤ 300)) = true ∧ (fw 2 1).length ≤ 400 := by decide +kernel
theorem fw_2_2 : F_first_words [.d (.int 2), .d (.int 2)] = .ok (.d (.lst ((fw 2 2).map tw))) [some (.d (.int 2)), some (.d (.int 2))] := by kernel_rfl
theorem kw_2_2 (ws : List (List Int)) : sFor (iRg1 (aCons (pName 1) aNil)) (gNm 3) B_kw [some (.d (im 2 2 ws)), some (.d (.int 2)), some (.d (.lst [tw []])), none, none] = .nx [some (.d (im 2 2 ws)), some (.d (.int 2)), some (.d (.lst ((fw 2 2).map tw))), some (.d (.int 1)), none] := by kernel_rfl
theorem wa_2_2 (ws : List (List Int)) : sExpr (mPP (pFd F_want_at_most (aCons (pCon (.str "words")) (aCons (pCon (.int 400)) (aCons (pFd F_many_words (aCons (p2 DL.gIx (pName 0) (pCon (.int 1))) (aCons (pName 1) aNil))) aNil))))) [some (.d (im 2 2 ws)), some (.d (.int 2))] = .nx [some (.d (im 2 2 ws)), some (.d (.int 2))] := by kernel_rfl
theorem fl_2_2 : ((fw 2 2).all fun w => w.all (letB 2) && decide (w.length ≤ 300)) = true ∧ (fw 2 2).length ≤ 400 := by decide +kernel
theorem fw_2_3 : F_first_words [.d (.int 2), .d (.int 3)] = .ok (.d (.lst ((fw 2 3).map tw))) [some (.d (.int 2)), some (.d (.int 3))] := by kernel_rfl
theorem kw_2_3 (ws : List (List Int)) : sFor (iRg1 (aCons (pName 1) aNil)) (gNm 3) B_kw [some (.d (im 2 2 ws)), some (.d (.int 3)), some (.d (.lst [tw []])), none, none] = .nx [some (.d (im 2 2 ws)), some (.d (.int 3)), some (.d (.lst ((fw 2 3).map tw))), some (.d (.int 2)), none] := by kernel_rfl
theorem wa_2_3 (ws : List (List Int)) : sExpr (mPP (pFd F_want_at_most (aCons (pCon (.str "words")) (aCons (pCon (.int 400)) (aCons (pFd F_many_words (aCons (p2 DL.gIx (pName 0) (pCon (.int 1))) (aCons (pName 1) aNil))) aNil))))) [some (.d (im 2 2 ws)), some (.d (.int 3))] = .nx [some (.d (im 2 2 ws)), some (.d (.int 3))] := by kernel_rfl
theorem fl_2_3 : ((fw 2 3).all fun w => w.all (letB 2) && decide (w.length ≤ 300)) = true ∧ (fw 2 3).length ≤ 400 := by decide +kernel
theorem fw_3_0 : F_first_words [.d (.int 3), .d (.int 0)] = .ok (.d (.lst ((fw 3 0).map tw))) [some (.d (.int 3)), some (.d (.int 0))] := by kernel_rfl
theorem kw_3_0 (ws : List (List Int)) : sFor (iRg1 (aCons (pName 1) aNil)) (gNm 3) B_kw [some (.d (im 3 3 ws)), some (.d (.int 0)), some (.d (.lst [tw []])), none, none] = .nx [some (.d (im 3 3 ws)), some (.d (.int 0)), some (.d (.lst ((fw 3 0).map tw))), none, none] := by kernel_rfl
theorem wa_3_0 (ws : List (List Int)) : sExpr (mPP (pFd F_want_at_most (aCons (pCon (.str "words")) (aCons (pCon (.int 400)) (aCons (pFd F_many_words (aCons (p2 DL.gIx (pName 0) (pCon (.int 1))) (aCons (pName 1) aNil))) aNil))))) [some (.d (im 3 3 ws)), some (.d (.int 0))] = .nx [some (.d (im 3 3 ws)), some (.d (.int 0))] := by kernel_rfl
theorem fl_3_0 : ((fw 3 0).all fun w => w.all (letB 3) && decide (w.length ≤ 300)) = true ∧ (fw 3 0).length ≤ 400 := by decide +kernel
theorem fw_3_1 : F_first_words [.d (.int 3), .d (.int 1)] = .ok (.d (.lst ((fw 3 1).map tw))) [some (.d (.int 3)), some (.d (.int 1))] := by kernel_rfl
theorem kw_3_1 (ws : List (List Int)) : sFor (iRg1 (aCons (pName 1) aNil)) (gNm 3) B_kw [some (.d (im 3 3 ws)), some (.d (.int 1)), some (.d (.lst [tw []])), none, none] = .nx [some (.d (im 3 3 ws)), some (.d (.int 1)), some (.d (.lst ((fw 3 1).map tw))), some (.d (.int 0)), none] := by kernel_rfl
theorem wa_3_1 (ws : List (List Int)) : sExpr (mPP (pFd F_want_at_most (aCons (pCon (.str "words")) (aCons (pCon (.int 400)) (aCons (pFd F_many_words (aCons (p2 DL.gIx (pName 0) (pCon (.int 1))) (aCons (pName 1) aNil))) aNil))))) [some (.d (im 3 3 ws)), some (.d (.int 1))] = .nx [some (.d (im 3 3 ws)), some (.d (.int 1))] := by kernel_rfl
theorem fl_3_1 : ((fw 3 1).all fun w => w.all (letB 3) && decide (w.length ≤ 300)) = true ∧ (fw 3 1).length ≤ 400 := by decide +kernel
theorem fw_3_2 : F_first_words [.d (.int 3), .d (.int 2)] = .ok (.d (.lst ((fw 3 2).map tw))) [some (.d (.int 3)), some (.d (.int 2))] := by kernel_rfl
theorem kw_3_2 (ws : List (List Int)) : sFor (iRg1 (aCons (pName 1) aNil)) (gNm 3) B_kw [some (.d (im 3 3 ws)), some (.d (.int 2)), some (.d (.lst [tw []])), none, none] = .nx [some (.d (im 3 3 ws)), some (.d (.int 2)), some (.d (.lst ((fw 3 2).map tw))), some (.d (.int 1)), none] := by kernel_rfl
theorem wa_3_2 (ws : List (List Int)) : sExpr (mPP (pFd F_want_at_most (aCons (pCon (.str "words")) (aCons (pCon (.int 400)) (aCons (pFd F_many_words (aCons (p2 DL.gIx (pName 0) (pCon (.int 1))) (aCons (pName 1) aNil))) aNil))))) [some (.d (im 3 3 ws)), some (.d (.int 2))] = .nx [some (.d (im 3 3 ws)), some (.d (.int 2))] := by kernel_rfl
theorem fl_3_2 : ((fw 3 2).all fun w => w.all (letB 3) && decide (w.length ≤ 300)) = true ∧ (fw 3 2).length ≤ 400 := by decide +kernel
theorem fw_ok {r l : Int} (h : RL r l) : F_first_words [.d (.int r), .d (.int l)] = .ok (.d (.lst ((fw r l.toNat).map tw))) [some (.d (.int r)), some (.d (.int l))] := by
  rcases h.cases with ⟨rfl, rfl⟩ | ⟨rfl, rfl⟩ | ⟨rfl, rfl⟩ | ⟨rfl, rfl⟩ | ⟨rfl, rfl⟩ | ⟨rfl, rfl⟩ | ⟨rfl, rfl⟩ | ⟨rfl, rfl⟩ | ⟨rfl, rfl⟩ | ⟨rfl, rfl⟩ | ⟨rfl, rfl⟩ | ⟨rfl, rfl⟩
  · exact fw_1_0
  · exact fw_1_1
  · exact fw_1_2
  · exact fw_1_3
  · exact fw_1_4
  · exact fw_2_0
  · exact fw_2_1
  · exact fw_2_2
  · exact fw_2_3
  · exact fw_3_0
  · exact fw_3_1
  · exact fw_3_2
theorem kw_ok {r l : Int} (h : RL r l) (ws : List (List Int)) : ∃ t, sFor (iRg1 (aCons (pName 1) aNil)) (gNm 3) B_kw [some (.d (im r r ws)), some (.d (.int l)), some (.d (.lst [tw []])), none, none] = .nx [some (.d (im r r ws)), some (.d (.int l)), some (.d (.lst ((fw r l.toNat).map tw))), t, none] := by
  rcases h.cases with ⟨rfl, rfl⟩ | ⟨rfl, rfl⟩ | ⟨rfl, rfl⟩ | ⟨rfl, rfl⟩ | ⟨rfl, rfl⟩ | ⟨rfl, rfl⟩ | ⟨rfl, rfl⟩ | ⟨rfl, rfl⟩ | ⟨rfl, rfl⟩ | ⟨rfl, rfl⟩ | ⟨rfl, rfl⟩ | ⟨rfl, rfl⟩
  · exact ⟨_, kw_1_0 ws⟩
  · exact ⟨_, kw_1_1 ws⟩
  · exact ⟨_, kw_1_2 ws⟩
  · exact ⟨_, kw_1_3 ws⟩
  · exact ⟨_, kw_1_4 ws⟩
  · exact ⟨_, kw_2_0 ws⟩
  · exact ⟨_, kw_2_1 ws⟩
  · exact ⟨_, kw_2_2 ws⟩
  · exact ⟨_, kw_2_3 ws⟩
  · exact ⟨_, kw_3_0 ws⟩
  · exact ⟨_, kw_3_1 ws⟩
  · exact ⟨_, kw_3_2 ws⟩
theorem wa_ok {r l : Int} (h : RL r l) (ws : List (List Int)) : sExpr (mPP (pFd F_want_at_most (aCons (pCon (.str "words")) (aCons (pCon (.int 400)) (aCons (pFd F_many_words (aCons (p2 DL.gIx (pName 0) (pCon (.int 1))) (aCons (pName 1) aNil))) aNil))))) [some (.d (im r r ws)), some (.d (.int l))] = .nx [some (.d (im r r ws)), some (.d (.int l))] := by
  rcases h.cases with ⟨rfl, rfl⟩ | ⟨rfl, rfl⟩ | ⟨rfl, rfl⟩ | ⟨rfl, rfl⟩ | ⟨rfl, rfl⟩ | ⟨rfl, rfl⟩ | ⟨rfl, rfl⟩ | ⟨rfl, rfl⟩ | ⟨rfl, rfl⟩ | ⟨rfl, rfl⟩ | ⟨rfl, rfl⟩ | ⟨rfl, rfl⟩
  · exact wa_1_0 ws
  · exact wa_1_1 ws
  · exact wa_1_2 ws
  · exact wa_1_3 ws
  · exact wa_1_4 ws
  · exact wa_2_0 ws
  · exact wa_2_1 ws
  · exact wa_2_2 ws
  · exact wa_2_3 ws
  · exact wa_3_0 ws
  · exact wa_3_1 ws
  · exact wa_3_2 ws
theorem fl_ok {r l : Int} (h : RL r l) : (∀ w ∈ fw r l.toNat, (∀ i ∈ w, Let r i) ∧ w.length ≤ 300) ∧ (fw r l.toNat).length ≤ 400 := by
  have q : ((fw r l.toNat).all fun w => w.all (letB r) && decide (w.length ≤ 300)) = true ∧ (fw r l.toNat).length ≤ 400 := by
    rcases h.cases with ⟨rfl, rfl⟩ | ⟨rfl, rfl⟩ | ⟨rfl, rfl⟩ | ⟨rfl, rfl⟩ | ⟨rfl, rfl⟩ | ⟨rfl, rfl⟩ | ⟨rfl, rfl⟩ | ⟨rfl, rfl⟩ | ⟨rfl, rfl⟩ | ⟨rfl, rfl⟩ | ⟨rfl, rfl⟩ | ⟨rfl, rfl⟩
    · exact fl_1_0
    · exact fl_1_1
    · exact fl_1_2
    · exact fl_1_3
    · exact fl_1_4
    · exact fl_2_0
    · exact fl_2_1
    · exact fl_2_2
    · exact fl_2_3
    · exact fl_3_0
    · exact fl_3_1
    · exact fl_3_2
  refine ⟨fun w hw => ?_, q.2⟩
  obtain ⟨a, b⟩ := Bool.and_eq_true_iff.mp (List.all_eq_true.mp q.1 w hw)
  exact ⟨fun i hi => letB_iff.mp (List.all_eq_true.mp a i hi), of_decide_eq_true b⟩
theorem RL.r {r l : Int} (h : RL r l) : 1 ≤ r ∧ r ≤ 3 ∧ 0 ≤ l ∧ l ≤ 4 := by
  unfold RL at h
  omega
/-- the words that stay -/
def kept (ws : List (List Int)) (r l : Int) : List (List Int) := (fw r l.toNat).filter fun w => decide (img ws w = w)
theorem stay_list {F : List S → Out} (hF : Fim F) {r l : Int} (h : RL r l) {ws : List (List Int)} (v : VI r ws) {e : En} {k j : Nat} {fi : FI} {b : Bool} (hs : fi e = some ((fw r l.toNat).map tw, b))
    (hk : ∀ d, ((wipeE e [j]).set j (some (.d d)))[k]? = some (some (.d (im r r ws)))) (hj : j < (wipeE e [j]).length) :
    pLc [j] fi (gNm j) (tVal (p2 gEq (pFd F (aCons (pName k) (aCons (pName j) aNil))) (pName j))) (pName j) e = some (.fr ((kept ws r l).map tw)) := by
  obtain ⟨a, b⟩ := fl_ok h
  have r2 := v.r2
  refine pLc_fr hs (lcI_some hj (fw r l.toNat) (p := fun w => decide (img ws w = w)) (fun w hw => ?_) fun w hw _ => ⟨_, pN (List.getElem?_set_self hj), rfl⟩) ?_
  · exact tVal_ok ((p2_ok (call2 (pN (hk _)) (pN (List.getElem?_set_self hj)) (hF v (a w hw).1 (a w hw).2)) (pN (List.getElem?_set_self hj))).trans (gEq_tw (L4_of r2 (img_let v w)) (L4_of r2 (a w hw).1)))
  · rw [List.length_map]
    exact Nat.le_trans (List.length_filter_le _ _) (Nat.le_trans b (by decide))
theorem keptw_ok {r l : Int} (h : RL r l) {ws : List (List Int)} (v : VI r ws) : F_kept_words [.d (im r r ws), .d (.int l)] = .ok (.lst ((kept ws r l).map tw)) [some (.d (im r r ws)), some (.d (.int l))] := by
  obtain ⟨t, q2⟩ := kw_ok h ws
  have q1 : sSet 2 (mPP (pLst (aCons (pTup aNil) aNil))) [some (.d (im r r ws)), some (.d (.int l)), none, none, none] = .nx [some (.d (im r r ws)), some (.d (.int l)), some (.d (.lst [tw []])), none, none] := rfl
  exact fn_rt (show B_kept_words (enter 5 [.d (im r r ws), .d (.int l)]) = _ from (seq_nx q1).trans ((seq_nx q2).trans (ret_fr (stay_list fim_p h v (k := 0) (j := 4) (fi := iSeq (pName 2)) rfl (fun _ => rfl) (by show 4 < 5; omega))))) rfl rfl
theorem left_ok {r l : Int} (h : RL r l) {ws : List (List Int)} (v : VI r ws) : F_words_left [.d (im r r ws), .d (.int l)] = .ok (.lst ((kept ws r l).map tw)) [some (.d (im r r ws)), some (.d (.int l))] := by
  have hr := h.r
  have a1 : sExpr (mPP (pFd F_want_images (aCons (pName 0) aNil))) [some (.d (im r r ws)), some (.d (.int l))] = .nx [some (.d (im r r ws)), some (.d (.int l))] := expr_fz (call1 rfl (wi_ok v))
  have a2 : sExpr (mPP (pFd F_want_many (aDf [0] (aCons (pName 1) (aCons (pCon (.int 24)) aNil))))) [some (.d (im r r ws)), some (.d (.int l))] = .nx [some (.d (im r r ws)), some (.d (.int l))] :=
    expr_fz ((pFd_ok (rs := [.fz (.int l), .fz (.int 24), .fz (.int 0)]) rfl).trans (callP_fz (wm_ok (by omega) (by omega)) (Or.inl rfl)))
  have a3 : sExpr (mPP (pFd F_want_own_rank (aCons (pName 0) aNil))) [some (.d (im r r ws)), some (.d (.int l))] = .nx [some (.d (im r r ws)), some (.d (.int l))] := expr_fz (call1 rfl (wr_ok v))
  have a5 : sRet (mPP (pFd F_kept_words (aCons (pName 0) (aCons (pName 1) aNil)))) [some (.d (im r r ws)), some (.d (.int l))] = .rt (.lst ((kept ws r l).map tw)) [some (.d (im r r ws)), some (.d (.int l))] := ret_fr (call2r rfl rfl (keptw_ok h v))
  exact fn_rt (show B_words_left (enter 2 [.d (im r r ws), .d (.int l)]) = _ from (seq_nx a1).trans ((seq_nx a2).trans ((seq_nx a3).trans ((seq_nx (wa_ok h ws)).trans a5)))) rfl rfl
theorem kept_nil (ws : List (List Int)) (r : Int) : kept ws r 0 = [[]] := rfl
theorem kept_l4 {r l : Int} (h : RL r l) (ws : List (List Int)) : ∀ w ∈ kept ws r l, L4 w := fun w hw => L4_of (by have := h.r; omega) ((fl_ok h).1 w (List.mem_filter.mp hw).1).1
end G76

set_option maxHeartbeats 4000000
namespace G76
open PySem PySem.Spec PyProof.Rows L2 DL
open FG (Red red inv pw push stk)
/-! # one map of images: powers, least turns, words left -/
abbrev I_0 : FS := (sSet 4 (mFd 2 F__law_draw (arBw 0 (arFz (mPP (pCon (.int 25))) arNil))))
abbrev I_1 : FS := (sSet 5 (mPP (pFd F__law_powers (aCons (pName 3) (aCons (pName 4) aNil)))))
abbrev I_2 : FS := (sSetO 6 (mLst (lCons (mHeard "TooMany" "what" "limit" (mFd 2 F_images_power (arFz (mPP (pName 3)) (arFz (mPP (pName 4)) arNil)))) lNil)))
abbrev I_3 : FS := (sExpr (mMt 6 gApp (mHeard "TooMany" "what" "limit" (mFdK F_images_power (permG 0 2 [1, 0]) 2 (aCons (pName 4) (aCons (pName 3) aNil))))))
abbrev I_4 : FS := (sIf (tMT (DL.tOr (tVal (p2 gNe (pName 6) (pLst (aCons (pName 5) (aCons (pName 5) aNil))))) (tVal (p2 gNe (pCa gRepr (aCons (pLst (aCons (pFd F_least_turn (aCons (pName 3) aNil)) (aCons (pFdK F_least_turn (permG 0 1 [0]) 1 aNil (aCons (pName 3) aNil)) aNil))) aNil)) (pCa gRepr (aCons (p2 DL.gMul (pLst (aCons (pFd F__law_least (aCons (pName 3) aNil)) aNil)) (pCon (.int 2))) aNil)))))) (sRet (mPP (pCon (.bl false)))) sNil)
abbrev I_5 : FS := (sIf (tMT (DL.tAnd (tVal (pIsi .tuple (pName 5))) (DL.tAnd (tVal (p2 gGt (pName 4) (pCon (.int 0)))) (DL.tAnd (tVal (p2 gIsNot (pFd F_least_turn (aCons (pName 3) aNil)) (pCon .non))) (tVal (p2 gEq (pCa gInt (aCons (p2 gMod (pName 4) (pFd F_least_turn (aCons (pName 3) aNil))) aNil)) (pCon (.int 0)))))))) (sIf (tMT (tVal (p2 gNe (p2 DL.gIx (pName 5) (pCon (.int 3))) (pCa gTuple (aCons (pLc [9] (iRg2 (aCons (pCon (.int 1)) (aCons (p2 DL.gAdd (pName 2) (pCon (.int 1))) aNil))) (gNm 9) tAll (pTup (aCons (pName 9) aNil))) aNil))))) (sRet (mPP (pCon (.bl false)))) sNil) sNil)
abbrev I_6 : FS := (sSet 7 (m2 DL.gAdd (mPP (pCon (.int 1))) (mFd 2 F__law_draw (arBw 0 (arFz (mPP (p2 DL.gIx (pLst (aCons (pCon (.int 4)) (aCons (pCon (.int 3)) (aCons (pCon (.int 2)) aNil)))) (p2 DL.gSub (pName 2) (pCon (.int 1))))) arNil)))))
abbrev I_7 : FS := (sSet 8 (mPP (pLc [10] (iSeq (pFd F_first_words (aCons (pName 2) (aCons (pName 7) aNil)))) (gNm 10) (tVal (p2 gEq (pFd F__law_image (aCons (pName 3) (aCons (pName 10) aNil))) (pName 10))) (pName 10))))
abbrev I_8 : FS := (sIf (tMT (DL.tOr (tVal (p2 gNe (pLst (aCons (pFd F_words_left (aCons (pName 3) (aCons (pName 7) aNil))) (aCons (pFdK F_words_left (permG 0 2 [1, 0]) 2 aNil (aCons (pName 7) (aCons (pName 3) aNil))) aNil))) (pLst (aCons (pName 8) (aCons (pName 8) aNil))))) (tVal (p2 gNe (pFd F_words_left (aCons (pName 3) (aCons (pCon (.int 0)) aNil))) (pLst (aCons (pTup aNil) aNil)))))) (sRet (mPP (pCon (.bl false)))) sNil)
abbrev I_all : FS := sSeq I_0 (sSeq I_1 (sSeq I_2 (sSeq I_3 (sSeq I_4 (sSeq I_5 (sSeq I_6 (sSeq I_7 (I_8))))))))
abbrev T_told : FT := (tVal (p2 gNe (pName 6) (pLst (aCons (pName 5) (aCons (pName 5) aNil)))))
abbrev T_rep : FT := (tVal (p2 gNe (pCa gRepr (aCons (pLst (aCons (pFd F_least_turn (aCons (pName 3) aNil)) (aCons (pFdK F_least_turn (permG 0 1 [0]) 1 aNil (aCons (pName 3) aNil)) aNil))) aNil)) (pCa gRepr (aCons (p2 DL.gMul (pLst (aCons (pFd F__law_least (aCons (pName 3) aNil)) aNil)) (pCon (.int 2))) aNil))))
abbrev T_mult : FT := (DL.tAnd (tVal (pIsi .tuple (pName 5))) (DL.tAnd (tVal (p2 gGt (pName 4) (pCon (.int 0)))) (DL.tAnd (tVal (p2 gIsNot (pFd F_least_turn (aCons (pName 3) aNil)) (pCon .non))) (tVal (p2 gEq (pCa gInt (aCons (p2 gMod (pName 4) (pFd F_least_turn (aCons (pName 3) aNil))) aNil)) (pCon (.int 0)))))))
abbrev I_5s : FS := (sIf (tMT (tVal (p2 gNe (p2 DL.gIx (pName 5) (pCon (.int 3))) (pCa gTuple (aCons (pLc [9] (iRg2 (aCons (pCon (.int 1)) (aCons (p2 DL.gAdd (pName 2) (pCon (.int 1))) aNil))) (gNm 9) tAll (pTup (aCons (pName 9) aNil))) aNil))))) (sRet (mPP (pCon (.bl false)))) sNil)
abbrev T_w1 : FT := (tVal (p2 gNe (pLst (aCons (pFd F_words_left (aCons (pName 3) (aCons (pName 7) aNil))) (aCons (pFdK F_words_left (permG 0 2 [1, 0]) 2 aNil (aCons (pName 7) (aCons (pName 3) aNil))) aNil))) (pLst (aCons (pName 8) (aCons (pName 8) aNil)))))
abbrev T_w2 : FT := (tVal (p2 gNe (pFd F_words_left (aCons (pName 3) (aCons (pCon (.int 0)) aNil))) (pLst (aCons (pTup aNil) aNil))))
abbrev M_h1 : FM := (mHeard "TooMany" "what" "limit" (mFd 2 F_images_power (arFz (mPP (pName 3)) (arFz (mPP (pName 4)) arNil))))
abbrev M_h2 : FM := (mHeard "TooMany" "what" "limit" (mFdK F_images_power (permG 0 2 [1, 0]) 2 (aCons (pName 4) (aCons (pName 3) aNil))))
abbrev O_0 : FS := (sSet 2 (m2 DL.gAdd (mPP (pCon (.int 1))) (mFd 2 F__law_draw (arBw 0 (arFz (mPP (pCon (.int 3))) arNil)))))
abbrev O_1 : FS := (sForM (mLst (lCons (mFd 3 F__law_exchange (arBw 0 (arFz (mPP (pName 2)) (arFz (m2 DL.gAdd (mPP (pCon (.int 1))) (mFd 2 F__law_draw (arBw 0 (arFz (mPP (pCon (.int 4))) arNil)))) arNil)))) (lCons (mFd 4 F__law_images (arBw 0 (arFz (mPP (pName 2)) (arFz (mPP (pName 2)) (arFz (mPP (pCon (.int 3))) arNil))))) (lCons (mFd 2 F__law_letters_only (arBw 0 (arFz (mPP (pName 2)) arNil))) lNil)))) (gNm 3) I_all)
abbrev O_2 : FS := (sSet 3 (mFd 2 F__law_letters_only (arBw 0 (arFz (mPP (pCon (.int 4))) arNil))))
abbrev O_3 : FS := (sIf (tMT (tVal (p2 gNe (pFd F_least_turn (aCons (pName 3) aNil)) (pFd F__law_rings (aCons (pName 3) aNil))))) (sRet (mPP (pCon (.bl false)))) sNil)
abbrev O_all : FS := sSeq O_0 (sSeq O_1 (sSeq O_2 O_3))
theorem B_right_eq : B__law_right = sSeq (sFor (iRg1 (aCons (pCon (.int 4)) aNil)) (gNm 1) O_all) (sRet (mPP (pCon (.bl true)))) := rfl
abbrev M_ex : FM := (mFd 3 F__law_exchange (arBw 0 (arFz (mPP (pName 2)) (arFz (m2 DL.gAdd (mPP (pCon (.int 1))) (mFd 2 F__law_draw (arBw 0 (arFz (mPP (pCon (.int 4))) arNil)))) arNil))))
abbrev M_ig : FM := (mFd 4 F__law_images (arBw 0 (arFz (mPP (pName 2)) (arFz (mPP (pName 2)) (arFz (mPP (pCon (.int 3))) arNil)))))
abbrev M_lo : FM := (mFd 2 F__law_letters_only (arBw 0 (arFz (mPP (pName 2)) arNil)))
abbrev rE (p : List D) (t : Option S) (r : Int) (ws : List (List Int)) (m d o l s : Option S) : En := [some (.lst p), t, some (.d (.int r)), some (.d (im r r ws)), m, d, o, l, s, none, none]
theorem callP_S {F : List S → Out} {rs : List RV} {s : S} {e : En} (h : F (rs.map fun r => .d r.view) = .ok s e) (c : (rs.all fun r => !r.lent) = true) : callP F rs = some s.rv := by
  unfold callP
  rw [h]
  exact if_pos (Or.inl c)
theorem set_S {f : FP} {e : En} {s : S} {i : Nat} (h : f e = some s.rv) (hi : i < e.length) : sSet i (mPP f) e = .nx (e.set i (some (.d s.view))) := by
  cases s with
  | d x => exact set_fz h hi
  | lst xs => exact set_fr h hi
theorem rnn_ok {r : Int} {ws : List (List Int)} (v : VI r ws) : ∀ (n : Nat) (us vs : List (List Int)), Ok r us → rnn ws n us = .inl vs → Ok r vs
  | 0, us, vs, ok, h => by cases h; exact ok
  | n + 1, us, vs, ok, h => by
    unfold rnn at h
    split at h
    · cases h
    · split at h
      · cases h
      · exact rnn_ok v n _ _ (stp_ok v ok) h
theorem rnn_inr {ws : List (List Int)} : ∀ (n : Nat) (us : List (List Int)) (p : Str × Int), rnn ws n us = .inr p → p = (("letters" : Str), (60 : Int)) ∨ p = (("together" : Str), (48 : Int))
  | 0, us, p, h => by cases h
  | n + 1, us, p, h => by
    unfold rnn at h
    split at h
    · cases h; exact .inl rfl
    · split at h
      · cases h; exact .inr rfl
      · exact rnn_inr n _ _ h
theorem im_nice {r : Int} (h1 : 1 ≤ r) (h2 : r ≤ 4) {us : List (List Int)} (h : ∀ w ∈ us, L4 w) : (im r r us).nice = true ∧ (im r r us).dep ≤ 3 := by
  obtain ⟨a, b⟩ := nl_tw us h
  have i : (D.int r).nice = true := by
    rcases r_cases h1 h2 with rfl | rfl | rfl | rfl <;> rfl
  refine ⟨?_, ?_⟩
  · show ((D.str "images").nice && ((D.int r).nice && ((D.int r).nice && (niceL (us.map tw) && true)))) = true
    rw [i, a, show (D.str "images").nice = true by decide +kernel]
    rfl
  · show max 0 (max 0 (max 0 (max (depL (us.map tw) + 1) 0))) + 1 ≤ 3
    omega
def dv (r : Int) (ws : List (List Int)) (n : Int) : D := (dueS r ws n).view
theorem dv_nice {r : Int} {ws : List (List Int)} (v : VI r ws) (n : Int) : (dv r ws n).nice = true ∧ (dv r ws n).dep ≤ 3 := by
  unfold dv dueS
  cases q : rnn ws n.toNat (idz r) with
  | inl vs => exact im_nice v.r1 v.r2 ((rnn_ok v _ _ _ (idz_ok v.r1 v.r2).1 q).l4 v.r2)
  | inr p =>
    rcases rnn_inr _ _ _ q with rfl | rfl
    · exact ⟨show (D.lst [.str "letters", .int 60]).nice = true by decide +kernel, show (D.lst [.str "letters", .int 60]).dep ≤ 3 by decide +kernel⟩
    · exact ⟨show (D.lst [.str "together", .int 48]).nice = true by decide +kernel, show (D.lst [.str "together", .int 48]).dep ≤ 3 by decide +kernel⟩
theorem hrd {r : Int} {ws : List (List Int)} {n : Int} {f : FM} {e : En} (h : f e = match rnn ws n.toNat (idz r) with
      | .inl vs => .ok (.d (im r r vs)) e
      | .inr p => .ex (xd p) e) : mHeard "TooMany" "what" "limit" f e = .ok (.d (dv r ws n)) e := by
  unfold mHeard dv dueS
  rw [h]
  cases q : rnn ws n.toNat (idz r) with
  | inl vs => rfl
  | inr p =>
    rcases rnn_inr _ _ _ q with rfl | rfl <;> rfl
section
variable {p : List D} {t : Option S} {r : Int} {ws : List (List Int)} {m d o l s : Option S} {n : Int}
variable (v : VI r ws) (n0 : 0 ≤ n) (n1 : n ≤ 24)
include v n0 n1 in
theorem h1_ok : M_h1 (rE p t r ws (some (.d (.int n))) d o l s) = .ok (.d (dv r ws n)) (rE p t r ws (some (.d (.int n))) d o l s) := by
  refine hrd ?_
  show callM F_images_power [.fz (im r r ws), .fz (.int n)] (rE p t r ws (some (.d (.int n))) d o l s) = _
  unfold callM
  show (match F_images_power [.d (im r r ws), .d (.int n)] with
      | .stuck => Out.stuck
      | .ok s' o' => (match putb [.fz (im r r ws), .fz (.int n)] o' (rE p t r ws (some (.d (.int n))) d o l s) with
        | some e2 => .ok s' e2
        | none => .stuck)
      | .ex x o' => (match putb [.fz (im r r ws), .fz (.int n)] o' (rE p t r ws (some (.d (.int n))) d o l s) with
        | some e2 => .ex x e2
        | none => .stuck)) = _
  rw [power_ok v n0 n1]
  cases rnn ws n.toNat (idz r) <;> rfl
include v n0 n1 in
theorem h2_ok : M_h2 (rE p t r ws (some (.d (.int n))) d o l s) = .ok (.d (dv r ws n)) (rE p t r ws (some (.d (.int n))) d o l s) := by
  refine hrd ?_
  show callX F_images_power [.fz (im r r ws), .fz (.int n)] (rE p t r ws (some (.d (.int n))) d o l s) = _
  unfold callX
  show (match F_images_power [.d (im r r ws), .d (.int n)] with
      | .ok s' _ => if true = true ∨ s'.flat = true then rvO (some s'.rv) (rE p t r ws (some (.d (.int n))) d o l s) else .stuck
      | .ex z _ => if true = true then .ex z (rE p t r ws (some (.d (.int n))) d o l s) else .stuck
      | .stuck => .stuck) = _
  rw [power_ok v n0 n1]
  cases rnn ws n.toNat (idz r) with
  | inl vs => exact if_pos (.inl rfl)
  | inr p => rfl
include v n0 n1 in
theorem i1_ok : I_1 (rE p t r ws (some (.d (.int n))) d o l s) = .nx (rE p t r ws (some (.d (.int n))) (some (.d (dv r ws n))) o l s) :=
  set_S (s := dueS r ws n) ((pFd_ok (rs := [.fz (im r r ws), .fz (.int n)]) rfl).trans (callP_S (lawpow_ok v n0 n1) rfl)) (by show 5 < 11; omega)
include v n0 n1 in
theorem i2_ok : I_2 (rE p t r ws (some (.d (.int n))) d o l s) = .nx (rE p t r ws (some (.d (.int n))) d (some (.lst [dv r ws n])) l s) := by
  have a : mLst (lCons M_h1 lNil) (rE p t r ws (some (.d (.int n))) d o l s) = .ok (.lst [dv r ws n]) (rE p t r ws (some (.d (.int n))) d o l s) :=
    mLst_ok (lCons_m (fs := lNil) (h1_ok v n0 n1) (xs := []) rfl) (by show 1 ≤ 1000; omega)
  show ((mLst (lCons M_h1 lNil) (rE p t r ws (some (.d (.int n))) d o l s)).st (putO 6)) = _
  rw [a]
  rfl
include v n0 n1 in
theorem i3_ok {x : D} : I_3 (rE p t r ws (some (.d (.int n))) d (some (.lst [x])) l s) = .nx (rE p t r ws (some (.d (.int n))) d (some (.lst [x, dv r ws n])) l s) := by
  show (((M_h2 (rE p t r ws (some (.d (.int n))) d (some (.lst [x])) l s)).bind (chg 6 gApp)).st fun _ e1 => Fl.nx e1) = _
  rw [h2_ok v n0 n1]
  show ((match gApp [x] (dv r ws n) with
      | some (y, ys) => Out.ok (.d y) ((rE p t r ws (some (.d (.int n))) d (some (.lst [x])) l s).set 6 (some (.lst ys)))
      | none => .stuck).st fun _ e1 => Fl.nx e1) = _
  have g : gApp [x] (dv r ws n) = some (.non, [x, dv r ws n]) := by
    unfold gApp
    rw [if_pos (by show 1 < SZ; decide)]
    rfl
  rw [g]
  rfl
include v in
theorem t1_ok : T_told (rE p t r ws m (some (.d (dv r ws n))) (some (.lst [dv r ws n, dv r ws n])) l s) = some false := by
  obtain ⟨a, b⟩ := dv_nice v n
  refine ne_f (a := .ow [dv r ws n, dv r ws n]) (b := .fr [dv r ws n, dv r ws n]) rfl (lst2_ok rfl rfl) rfl (nice_two a) ?_
  show max (dv r ws n).dep (max (dv r ws n).dep 0) + 1 ≤ 64
  omega
theorem ldv_nice {o : Option Int} (h : ∀ k, o = some k → 0 ≤ k ∧ k ≤ 30) : (ldv o).nice = true ∧ (ldv o).dep = 0 ∧ (ldv o).size ≤ 10 := by
  cases o with
  | none => exact ⟨rfl, rfl, by decide⟩
  | some k =>
    obtain ⟨a, b⟩ := h k rfl
    refine ⟨?_, rfl, ?_⟩
    · have := nice_dints (v := [k]) fun i hi => by
        rw [List.mem_singleton.mp hi]
        omega
      simpa [niceL, dints, ldv] using this
    · show 0 ≤ 10
      omega
theorem lea_b {r : Int} {ws : List (List Int)} (v : VI r ws) : ∀ k, lea r ws = some k → 0 ≤ k ∧ k ≤ 30 := fun k h => by
  have a := (lea_itr v h).1
  have b := lea_le 24 1 k ws h
  omega
include v in
theorem t2_ok : T_rep (rE p t r ws m d o l s) = some false := by
  obtain ⟨a, b, c⟩ := ldv_nice (lea_b v)
  have l1 : pFd F_least_turn (aCons (pName 3) aNil) (rE p t r ws m d o l s) = some (.fz (ldv (lea r ws))) := call1 rfl (least_ok v)
  have l2 : pFdK F_least_turn (permG 0 1 [0]) 1 aNil (aCons (pName 3) aNil) (rE p t r ws m d o l s) = some (.fz (ldv (lea r ws))) :=
    (pFdK_ok (rs := []) (qs := [.fz (im r r ws)]) (us := [.fz (im r r ws)]) rfl rfl rfl rfl).trans (callP_fz (least_ok v) (.inl rfl))
  have l3 : pFd F__law_least (aCons (pName 3) aNil) (rE p t r ws m d o l s) = some (.fz (ldv (lea r ws))) := call1 rfl (lawleast_ok v)
  have n2 : niceL [ldv (lea r ws), ldv (lea r ws)] = true := nice_two a
  have d2 : depL [ldv (lea r ws), ldv (lea r ws)] ≤ 60 := by
    show max (ldv (lea r ws)).dep (max (ldv (lea r ws)).dep 0) ≤ 60
    omega
  have s2 : sizeL [ldv (lea r ws), ldv (lea r ws)] ≤ 8000 := by
    show (ldv (lea r ws)).size + 1 + ((ldv (lea r ws)).size + 1 + 0) ≤ 8000
    omega
  have r1 := repr_fr (lst2_ok l1 l2) n2 d2 s2
  have g : p2 DL.gMul (pLst (aCons (pFd F__law_least (aCons (pName 3) aNil)) aNil)) (pCon (.int 2)) (rE p t r ws m d o l s) = some (.fr [ldv (lea r ws), ldv (lea r ws)]) := by
    have q : pLst (aCons (pFd F__law_least (aCons (pName 3) aNil)) aNil) (rE p t r ws m d o l s) = some (.fr [ldv (lea r ws)]) := pLst_ok (rs := [.fz (ldv (lea r ws))]) (aCons_ok (rs := []) l3 rfl) rfl (by show 1 ≤ 1000; omega)
    exact (p2_ok (b := .fz (.int 2)) q rfl).trans (gMul_rep (ldv (lea r ws)) (k := 2) (by decide))
  have r2 := repr_fr g n2 d2 s2
  exact shown_f r1 r2 n2
include v in
theorem ids_r' : pCa gTuple (aCons (pLc [9] (iRg2 (aCons (pCon (.int 1)) (aCons (p2 DL.gAdd (pName 2) (pCon (.int 1))) aNil))) (gNm 9) tAll (pTup (aCons (pName 9) aNil))) aNil) (rE p t r ws m d o l s) = some (.fz (.tup ((idz r).map tw))) := by
  rcases r_cases v.r1 v.r2 with rfl | rfl | rfl | rfl <;> rfl
include v n0 n1 in
theorem i5_ok : I_5 (rE p t r ws (some (.d (.int n))) (some (.d (dv r ws n))) o l s) = .nx (rE p t r ws (some (.d (.int n))) (some (.d (dv r ws n))) o l s) := by
  have l1 : pFd F_least_turn (aCons (pName 3) aNil) (rE p t r ws (some (.d (.int n))) (some (.d (dv r ws n))) o l s) = some (.fz (ldv (lea r ws))) := call1 rfl (least_ok v)
  cases q : rnn ws n.toNat (idz r) with
  | inr c =>
    have e : dv r ws n = .lst [.str c.1, .int c.2] := by
      unfold dv dueS
      rw [q]
      rfl
    refine (if_f (tAnd_ok (a := false) (b := false) ?_ fun z => nomatch z)).trans rfl
    rw [e]
    rfl
  | inl vs =>
    have e : dv r ws n = im r r vs := by
      unfold dv dueS
      rw [q]
      rfl
    rw [e] at l1 ⊢
    have t1 : tVal (pIsi .tuple (pName 5)) (rE p t r ws (some (.d (.int n))) (some (.d (im r r vs))) o l s) = some true := rfl
    have t2 : tVal (p2 gGt (pName 4) (pCon (.int 0))) (rE p t r ws (some (.d (.int n))) (some (.d (im r r vs))) o l s) = some (decide (n > 0)) := rfl
    cases hl : lea r ws with
    | none =>
      rw [hl] at l1
      have t3 : tVal (p2 gIsNot (pFd F_least_turn (aCons (pName 3) aNil)) (pCon .non)) (rE p t r ws (some (.d (.int n))) (some (.d (im r r vs))) o l s) = some false := tVal_ok ((p2_ok l1 (b := .fz .non) rfl).trans rfl)
      refine (if_f (tAnd_ok (a := true) (b := false) t1 fun _ => ?_)).trans rfl
      by_cases z : n > 0
      · exact tAnd_ok (a := true) (b := false) (t2.trans (by rw [decide_eq_true z])) fun _ => tAnd_ok (a := false) (b := false) t3 fun z => nomatch z
      · exact tAnd_ok (a := false) (b := false) (t2.trans (by rw [decide_eq_false z])) fun z => nomatch z
    | some k =>
      rw [hl] at l1
      obtain ⟨k0, k1⟩ := lea_b v k hl
      have k2 := (lea_itr v hl).1
      have t3 : tVal (p2 gIsNot (pFd F_least_turn (aCons (pName 3) aNil)) (pCon .non)) (rE p t r ws (some (.d (.int n))) (some (.d (im r r vs))) o l s) = some true := tVal_ok ((p2_ok l1 (b := .fz .non) rfl).trans rfl)
      have md : p2 gMod (pName 4) (pFd F_least_turn (aCons (pName 3) aNil)) (rE p t r ws (some (.d (.int n))) (some (.d (im r r vs))) o l s) = some (.fz (.int (n % k))) :=
        (p2_ok (a := .fz (.int n)) rfl l1).trans (if_pos (show 0 < k by omega))
      have b0 := Int.emod_nonneg n (show k ≠ 0 by omega)
      have b1 := Int.emod_lt_of_pos n (show 0 < k by omega)
      have t4 : tVal (p2 gEq (pCa gInt (aCons (p2 gMod (pName 4) (pFd F_least_turn (aCons (pName 3) aNil))) aNil)) (pCon (.int 0))) (rE p t r ws (some (.d (.int n))) (some (.d (im r r vs))) o l s) = some (decide (n % k = 0)) :=
        tVal_ok ((p2_ok ((pCa_ok (aCons_ok (rs := []) md rfl)).trans rfl) (b := .fz (.int 0)) rfl).trans (gEq_int (i := n % k) (j := 0) (by omega) (by decide)))
      have T : T_mult (rE p t r ws (some (.d (.int n))) (some (.d (im r r vs))) o l s) = some (true && (decide (n > 0) && (true && decide (n % k = 0)))) :=
        tAnd_ok t1 fun _ => tAnd_ok t2 fun _ => tAnd_ok t3 fun _ => t4
      by_cases z : n > 0 ∧ n % k = 0
      · obtain ⟨z1, z2⟩ := z
        rw [decide_eq_true z1, decide_eq_true z2] at T
        refine (if_t T).trans (ckF ?_)
        have w := pow_ids v n0 hl z2 q
        refine tVal_ok ((p2_ok (a := .fz (.tup (vs.map tw))) rfl (ids_r' v)).trans ?_)
        subst w
        show gNe (.tup ((idz r).map tw)) (.tup ((idz r).map tw)) = _
        rw [gNe_tws ((idz_ok v.r1 v.r2).1.l4 v.r2) ((idz_ok v.r1 v.r2).1.l4 v.r2), decide_eq_true rfl]
        rfl
      · have f : (true && (decide (n > 0) && (true && decide (n % k = 0)))) = false := by
          rw [Bool.true_and, Bool.true_and, ← Bool.decide_and]
          exact decide_eq_false z
        rw [f] at T
        exact (if_f T).trans rfl
end
end G76

set_option maxHeartbeats 4000000
namespace G76
open PySem PySem.Spec PyProof.Rows L2 DL
open FG (Red red inv pw push stk)
/-! # the law's turns -/
theorem draw_plus {e : En} {p : List D} (e0 : e[0]? = some (some (.lst p))) {f : FP} {n k : Int} {p' : List D} (hf : f e = some (.fz (.int n))) (h : F__law_draw [.lst p, .d (.int n)] = .ok (.d (.int k)) [some (.lst p'), some (.d (.int n))]) :
    m2 DL.gAdd (mPP (pCon (.int 1))) (mFd 2 F__law_draw (arBw 0 (arFz (mPP f) arNil))) e = .ok (.d (.int (1 + k))) (e.set 0 (some (.lst p'))) :=
  m2_fz (s := .d (.int 1)) (t := .d (.int k)) rfl (drw e0 hf h) rfl
section
variable {p : List D} {t : Option S} {r : Int} {ws : List (List Int)} {m d o l s : Option S} {n : Int}
theorem w_ok (v : VI r ws) {k : Int} (h : RL r k) : I_8 (rE p t r ws m d o (some (.d (.int k))) (some (.d (.lst ((kept ws r k).map tw))))) = .nx (rE p t r ws m d o (some (.d (.int k))) (some (.d (.lst ((kept ws r k).map tw))))) := by
  have hr := h.r
  have h0 : RL r 0 := by unfold RL; omega
  obtain ⟨a, b⟩ := nl_tw (kept ws r k) (kept_l4 h ws)
  have c1 : pFd F_words_left (aCons (pName 3) (aCons (pName 7) aNil)) (rE p t r ws m d o (some (.d (.int k))) (some (.d (.lst ((kept ws r k).map tw))))) = some (.fr ((kept ws r k).map tw)) := call2r rfl rfl (left_ok h v)
  have c2 : pFdK F_words_left (permG 0 2 [1, 0]) 2 aNil (aCons (pName 7) (aCons (pName 3) aNil)) (rE p t r ws m d o (some (.d (.int k))) (some (.d (.lst ((kept ws r k).map tw))))) = some (.fr ((kept ws r k).map tw)) := callK2r rfl rfl (left_ok h v)
  have c3 : pFd F_words_left (aCons (pName 3) (aCons (pCon (.int 0)) aNil)) (rE p t r ws m d o (some (.d (.int k))) (some (.d (.lst ((kept ws r k).map tw))))) = some (.fr [tw []]) := call2r rfl rfl (left_ok h0 v)
  have w1 : T_w1 (rE p t r ws m d o (some (.d (.int k))) (some (.d (.lst ((kept ws r k).map tw))))) = some false := by
    refine ne_f (a := .fr [.lst ((kept ws r k).map tw), .lst ((kept ws r k).map tw)]) (b := .fr [.lst ((kept ws r k).map tw), .lst ((kept ws r k).map tw)]) (pLst_ok (aCons_ok c1 (aCons_ok (rs := []) c2 rfl)) rfl (by show 2 ≤ 1000; omega)) (lst2_ok rfl rfl) rfl (nice_two (x := .lst ((kept ws r k).map tw)) a) ?_
    show max (depL ((kept ws r k).map tw) + 1) (max (depL ((kept ws r k).map tw) + 1) 0) + 1 ≤ 64
    omega
  have w2 : T_w2 (rE p t r ws m d o (some (.d (.int k))) (some (.d (.lst ((kept ws r k).map tw))))) = some false :=
    ne_f (a := .fr [tw []]) (b := .fr [tw []]) c3 rfl rfl (by decide) (by decide)
  exact ckF (tOr_ok (a := false) (b := false) w1 fun _ => w2)
theorem in_ok (hp : Pot p) (v : VI r ws) (h3 : r ≤ 3) (t m d o l s : Option S) : ∃ (p' : List D) (m' d' o' l' s' : Option S), Pot p' ∧ I_all (rE p t r ws m d o l s) = .nx (rE p' t r ws m' d' o' l' s') := by
  have r1 := v.r1
  obtain ⟨n, pa, hpa, n0, n1, e1⟩ := draw_ok hp 25 (by omega) (by omega)
  obtain ⟨k, pb, hpb, k0, k1, e2⟩ := draw_ok hpa (5 - r) (by omega) (by omega)
  have h : RL r (1 + k) := by unfold RL; omega
  have q0 : I_0 (rE p t r ws m d o l s) = .nx (rE pa t r ws (some (.d (.int n))) d o l s) := by
    unfold I_0 sSet
    rw [drw (p := p) rfl rfl e1]
    rfl
  have q4 : I_4 (rE pa t r ws (some (.d (.int n))) (some (.d (dv r ws n))) (some (.lst [dv r ws n, dv r ws n])) l s) = .nx (rE pa t r ws (some (.d (.int n))) (some (.d (dv r ws n))) (some (.lst [dv r ws n, dv r ws n])) l s) :=
    ckF (tOr_ok (a := false) (b := false) (t1_ok v) fun _ => t2_ok v)
  have q6 : I_6 (rE pa t r ws (some (.d (.int n))) (some (.d (dv r ws n))) (some (.lst [dv r ws n, dv r ws n])) l s) = .nx (rE pb t r ws (some (.d (.int n))) (some (.d (dv r ws n))) (some (.lst [dv r ws n, dv r ws n])) (some (.d (.int (1 + k)))) s) := by
    have f : p2 DL.gIx (pLst (aCons (pCon (.int 4)) (aCons (pCon (.int 3)) (aCons (pCon (.int 2)) aNil)))) (p2 DL.gSub (pName 2) (pCon (.int 1))) (rE pa t r ws (some (.d (.int n))) (some (.d (dv r ws n))) (some (.lst [dv r ws n, dv r ws n])) l s) = some (.fz (.int (5 - r))) := by
      have : r = 1 ∨ r = 2 ∨ r = 3 := by omega
      rcases this with rfl | rfl | rfl <;> rfl
    unfold I_6 sSet
    rw [draw_plus (p := pa) rfl f e2]
    rfl
  have q7 : I_7 (rE pb t r ws (some (.d (.int n))) (some (.d (dv r ws n))) (some (.lst [dv r ws n, dv r ws n])) (some (.d (.int (1 + k)))) s) = .nx (rE pb t r ws (some (.d (.int n))) (some (.d (dv r ws n))) (some (.lst [dv r ws n, dv r ws n])) (some (.d (.int (1 + k)))) (some (.d (.lst ((kept ws r (1 + k)).map tw))))) := by
    have c : pFd F_first_words (aCons (pName 2) (aCons (pName 7) aNil)) (rE pb t r ws (some (.d (.int n))) (some (.d (dv r ws n))) (some (.lst [dv r ws n, dv r ws n])) (some (.d (.int (1 + k)))) s) = some (.fz (.lst ((fw r (1 + k).toNat).map tw))) := call2 rfl rfl (fw_ok h)
    have i : iSeq (pFd F_first_words (aCons (pName 2) (aCons (pName 7) aNil))) (rE pb t r ws (some (.d (.int n))) (some (.d (dv r ws n))) (some (.lst [dv r ws n, dv r ws n])) (some (.d (.int (1 + k)))) s) = some ((fw r (1 + k).toNat).map tw, true) := by
      unfold iSeq
      rw [c]
      rfl
    exact set_fr (stay_list fim_l h v (k := 3) (j := 10) i (fun _ => rfl) (by show 10 < 11; omega)) (by show 8 < 11; omega)
  exact ⟨pb, _, _, _, _, _, hpb, (seq_nx q0).trans ((seq_nx (i1_ok v n0 (by omega))).trans ((seq_nx (i2_ok v n0 (by omega))).trans ((seq_nx (i3_ok v n0 (by omega))).trans ((seq_nx q4).trans ((seq_nx (i5_ok v n0 (by omega))).trans ((seq_nx q6).trans ((seq_nx q7).trans (w_ok v h))))))))⟩
end
/-! ### the three maps of a turn -/
abbrev oE (p : List D) (t : Option S) (r : Int) (i m d o l s : Option S) : En := [some (.lst p), t, some (.d (.int r)), i, m, d, o, l, s, none, none]
section
variable {p : List D} (hp : Pot p) {t : Option S} {r : Int} (h1 : 1 ≤ r) (h3 : r ≤ 3) (i m d o l s : Option S)
include hp h1 h3
theorem m_ex : ∃ (ws : List (List Int)) (p' : List D), Pot p' ∧ VI r ws ∧ M_ex (oE p t r i m d o l s) = .ok (.d (im r r ws)) (oE p' t r i m d o l s) := by
  obtain ⟨k, pa, hpa, k0, k1, e1⟩ := draw_ok hp 4 (by omega) (by omega)
  obtain ⟨ws, pb, hpb, v, e2⟩ := exchange_ok hpa (mv := 1 + k) h1 h3 (by omega) (by omega)
  refine ⟨ws, pb, hpb, v, ?_⟩
  have a := draw_plus (e := oE p t r i m d o l s) (p := p) rfl (f := pCon (.int 4)) (n := 4) rfl e1
  show ((OA.cons (.bw 0) (OA.cons (.fz (.int r)) ((m2 DL.gAdd (mPP (pCon (.int 1))) (mFd 2 F__law_draw (arBw 0 (arFz (mPP (pCon (.int 4))) arNil))) (oE p t r i m d o l s)).arF arNil))).bind fun as e1 => if as.length = 3 then callM F__law_exchange as e1 else .stuck) = _
  rw [a]
  show (match F__law_exchange [.lst pa, .d (.int r), .d (.int (1 + k))] with
      | .stuck => Out.stuck
      | .ok s' o' => (match putb [.bw 0, .fz (.int r), .fz (.int (1 + k))] o' (oE pa t r i m d o l s) with
        | some e2 => .ok s' e2
        | none => .stuck)
      | .ex x o' => (match putb [.bw 0, .fz (.int r), .fz (.int (1 + k))] o' (oE pa t r i m d o l s) with
        | some e2 => .ex x e2
        | none => .stuck)) = _
  rw [e2]
  rfl
theorem m_ig : ∃ (ws : List (List Int)) (p' : List D), Pot p' ∧ VI r ws ∧ M_ig (oE p t r i m d o l s) = .ok (.d (im r r ws)) (oE p' t r i m d o l s) := by
  obtain ⟨ws, pb, hpb, v, e2⟩ := images_ok hp h1 h3
  refine ⟨ws, pb, hpb, v, ?_⟩
  show (match F__law_images [.lst p, .d (.int r), .d (.int r), .d (.int 3)] with
      | .stuck => Out.stuck
      | .ok s' o' => (match putb [.bw 0, .fz (.int r), .fz (.int r), .fz (.int 3)] o' (oE p t r i m d o l s) with
        | some e2 => .ok s' e2
        | none => .stuck)
      | .ex x o' => (match putb [.bw 0, .fz (.int r), .fz (.int r), .fz (.int 3)] o' (oE p t r i m d o l s) with
        | some e2 => .ex x e2
        | none => .stuck)) = _
  rw [e2]
  rfl
theorem m_lo : ∃ (ws : List (List Int)) (p' : List D), Pot p' ∧ VI r ws ∧ M_lo (oE p t r i m d o l s) = .ok (.d (im r r ws)) (oE p' t r i m d o l s) := by
  obtain ⟨w, pb, hpb, _, v, e2⟩ := letters_ok hp h1 (by omega)
  refine ⟨_, pb, hpb, v, ?_⟩
  show (match F__law_letters_only [.lst p, .d (.int r)] with
      | .stuck => Out.stuck
      | .ok s' o' => (match putb [.bw 0, .fz (.int r)] o' (oE p t r i m d o l s) with
        | some e2 => .ok s' e2
        | none => .stuck)
      | .ex x o' => (match putb [.bw 0, .fz (.int r)] o' (oE p t r i m d o l s) with
        | some e2 => .ex x e2
        | none => .stuck)) = _
  rw [e2]
  rfl
theorem o1_ok : ∃ (p' : List D) (i' m' d' o' l' s' : Option S), Pot p' ∧ O_1 (oE p t r i m d o l s) = .nx (oE p' t r i' m' d' o' l' s') := by
  obtain ⟨wa, pa, hpa, va, ea⟩ := m_ex hp h1 h3 (t := t) i m d o l s
  obtain ⟨wb, pb, hpb, vb, eb⟩ := m_ig hpa h1 h3 (t := t) i m d o l s
  obtain ⟨wc, pc, hpc, vc, ec⟩ := m_lo hpb h1 h3 (t := t) i m d o l s
  have a : mLst (lCons M_ex (lCons M_ig (lCons M_lo lNil))) (oE p t r i m d o l s) = .ok (.lst [im r r wa, im r r wb, im r r wc]) (oE pc t r i m d o l s) :=
    mLst_ok (lCons_m ea (lCons_m eb (lCons_m (fs := lNil) ec (xs := []) rfl))) (by show 3 ≤ 1000; omega)
  obtain ⟨p1', m1, d1, o1, l1, s1, hp1, f1⟩ := in_ok hpc va h3 t m d o l s
  obtain ⟨p2', m2', d2, o2, l2, s2, hp2, f2⟩ := in_ok hp1 vb h3 t m1 d1 o1 l1 s1
  obtain ⟨p3', m3, d3, o3, l3, s3, hp3, f3⟩ := in_ok hp2 vc h3 t m2' d2 o2 l2 s2
  refine ⟨p3', some (.d (im r r wc)), m3, d3, o3, l3, s3, hp3, ?_⟩
  show ((mLst (lCons M_ex (lCons M_ig (lCons M_lo lNil))) (oE p t r i m d o l s)).st fun s e1 => match s.view with
    | .lst ds => forL (gNm 3) I_all ds e1
    | _ => .stuck) = _
  rw [a]
  show forL (gNm 3) I_all [im r r wa, im r r wb, im r r wc] (oE pc t r i m d o l s) = _
  exact (forL_nx (show gNm 3 (im r r wa) (oE pc t r i m d o l s) = some (rE pc t r wa m d o l s) from rfl) f1).trans ((forL_nx (show gNm 3 (im r r wb) (rE p1' t r wa m1 d1 o1 l1 s1) = some (rE p1' t r wb m1 d1 o1 l1 s1) from rfl) f2).trans ((forL_nx (show gNm 3 (im r r wc) (rE p2' t r wb m2' d2 o2 l2 s2) = some (rE p2' t r wc m2' d2 o2 l2 s2) from rfl) f3).trans rfl))
end
abbrev qE (p : List D) (t r i m d o l s : Option S) : En := [some (.lst p), t, r, i, m, d, o, l, s, none, none]
def IR (e : En) : Prop := ∃ p t r i m d o l s, Pot p ∧ e = qE p t r i m d o l s
theorem o23_ok {p : List D} (hp : Pot p) {t : Option S} {r : Int} (i m d o l s : Option S) : ∃ e', sSeq O_2 O_3 (oE p t r i m d o l s) = .nx e' ∧ IR e' := by
  obtain ⟨w, pb, hpb, hc, v, e2⟩ := letters_ok hp (r := 4) (by omega) (by omega)
  obtain ⟨k, ek, e3, e4⟩ := rings_ok hc
  have a : O_2 (oE p t r i m d o l s) = .nx (oE pb t r (some (.d (im 4 4 (w.map fun i => [i])))) m d o l s) := by
    have c : mFd 2 F__law_letters_only (arBw 0 (arFz (mPP (pCon (.int 4))) arNil)) (oE p t r i m d o l s) = .ok (.d (im 4 4 (w.map fun i => [i]))) (oE pb t r i m d o l s) := by
      show (match F__law_letters_only [.lst p, .d (.int 4)] with
        | .stuck => Out.stuck
        | .ok s' o' => (match putb [.bw 0, .fz (.int 4)] o' (oE p t r i m d o l s) with
          | some e2 => .ok s' e2
          | none => .stuck)
        | .ex x o' => (match putb [.bw 0, .fz (.int 4)] o' (oE p t r i m d o l s) with
          | some e2 => .ex x e2
          | none => .stuck)) = _
      rw [e2]
      rfl
    unfold O_2 sSet
    rw [c]
    rfl
  have b1 : pFd F_least_turn (aCons (pName 3) aNil) (oE pb t r (some (.d (im 4 4 (w.map fun i => [i])))) m d o l s) = some (.fz (.int k)) := by
    have := call1 (F := F_least_turn) (fa := pName 3) (e := oE pb t r (some (.d (im 4 4 (w.map fun i => [i])))) m d o l s) rfl (least_ok v)
    rw [e4] at this
    exact this
  have b2 : pFd F__law_rings (aCons (pName 3) aNil) (oE pb t r (some (.d (im 4 4 (w.map fun i => [i])))) m d o l s) = some (.fz (.int k)) := call1 rfl e3
  have nk := ldv_nice (o := some k) fun x hx => by cases hx; exact lea_b v k e4
  have b : O_3 (oE pb t r (some (.d (im 4 4 (w.map fun i => [i])))) m d o l s) = .nx (oE pb t r (some (.d (im 4 4 (w.map fun i => [i])))) m d o l s) :=
    ckF (ne_f (a := .fz (.int k)) (b := .fz (.int k)) b1 b2 rfl nk.1 (Nat.zero_le _))
  exact ⟨_, (seq_nx a).trans b, pb, t, some (.d (.int r)), _, m, d, o, l, s, hpb, rfl⟩
theorem o_ok {p : List D} (hp : Pot p) (t r i m d o l s : Option S) : ∃ e', O_all (qE p t r i m d o l s) = .nx e' ∧ IR e' := by
  obtain ⟨k, pa, hpa, k0, k1, e1⟩ := draw_ok hp 3 (by omega) (by omega)
  have a : O_0 (qE p t r i m d o l s) = .nx (oE pa t (1 + k) i m d o l s) := by
    unfold O_0 sSet
    rw [draw_plus (e := qE p t r i m d o l s) (p := p) rfl (f := pCon (.int 3)) (n := 3) rfl e1]
    rfl
  obtain ⟨pb, i', m', d', o', l', s', hpb, b⟩ := o1_ok hpa (t := t) (r := 1 + k) (by omega) (by omega) i m d o l s
  obtain ⟨e', c, h⟩ := o23_ok hpb (t := t) (r := 1 + k) i' m' d' o' l' s'
  exact ⟨e', (seq_nx a).trans ((seq_nx b).trans c), h⟩
theorem right_ok {p : List D} (hp : Pot p) : ∃ p', F__law_right [.lst p] = .ok (.d (.bl true)) [some (.lst p')] := by
  obtain ⟨e', q, p', t, r, i, m, d, o, l, s, hp', rfl⟩ := for_any (fi := iRg1 (aCons (pCon (.int 4)) aNil)) (bind := gNm 1) (fb := O_all) (I := IR) (e := qE p none none none none none none none none) (ds := rangeD 0 4) rfl (fun d _ e he => by
      obtain ⟨p, t, r, i, m, d', o, l, s, hp, rfl⟩ := he
      obtain ⟨e', q, h⟩ := o_ok hp (some (.d d)) r i m d' o l s
      exact ⟨_, e', rfl, q, h⟩) ⟨p, none, none, none, none, none, none, none, none, hp, rfl⟩
  have b : B__law_right (enter 11 [.lst p]) = .rt (.d (.bl true)) (qE p' t r i m d o l s) := (show B__law_right (enter 11 [.lst p]) = _ from (seq_nx q).trans (ret_fz rfl))
  exact ⟨p', fn_rt b rfl rfl⟩
end G76

set_option maxHeartbeats 4000000
namespace G76
open PySem PySem.Spec PyProof.Rows L2 DL
abbrev M_r : FM := mFd 1 F__law_right (arOw (mPP (pFd F__law_pot (aCons (pName 0) (aCons (pName 1) aNil)))) arNil)
theorem mr_ok (ns : List Int) {t : Int} (t0 : 0 ≤ t) (t1 : t ≤ 2) : M_r [some (.d (.ro (dints ns))), some (.d (.int t))] = .ok (.d (.bl true)) [some (.d (.ro (dints ns))), some (.d (.int t))] := by
  obtain ⟨q, hq, e1⟩ := pot_ok ns t0 t1
  obtain ⟨p', e2⟩ := right_ok hq
  have x1 : pFd F__law_pot (aCons (pName 0) (aCons (pName 1) aNil)) [some (.d (.ro (dints ns))), some (.d (.int t))] = some (.fr q) :=
    (pFd_ok (rs := [.fz (.ro (dints ns)), .fz (.int t)]) rfl).trans (callP_fr e1 rfl)
  unfold M_r mFd arOw mPP
  rw [x1]
  simp [e2]
theorem law_list (ns : List Int) : ∀ ds : List D, (∀ d ∈ ds, ∃ t : Int, d = .int t ∧ 0 ≤ t ∧ t ≤ 2) → lcM (gNm 1) tAll M_r [1] ds [some (.d (.ro (dints ns))), none] = .ok ((ds.map fun _ => true).map bl) [some (.d (.ro (dints ns))), none]
  | [], _ => rfl
  | d :: ds, h => by
    obtain ⟨t, rfl, t0, t1⟩ := h d List.mem_cons_self
    have ih := law_list ns ds fun x hx => h x (List.mem_cons_of_mem _ hx)
    have step : lcM (gNm 1) tAll M_r [1] (.int t :: ds) [some (.d (.ro (dints ns))), none] = (match M_r [some (.d (.ro (dints ns))), some (.d (.int t))] with
      | .ok s e2 => OL.cons s.view (lcM (gNm 1) tAll M_r [1] ds (wipeE e2 [1]))
      | _ => .stuck) := rfl
    rw [step, mr_ok ns t0 t1]
    show OL.cons (.bl true) (lcM (gNm 1) tAll M_r [1] ds [some (.d (.ro (dints ns))), none]) = _
    rw [ih]
    rfl
theorem law_true (ns : List Int) : ∃ e, F_law [.d (.ro (dints ns))] = .ok (.d (.bl true)) e := by
  have rg : ∃ n : Nat, n ≤ 3 ∧ iRg1 (aCons (pCa gMax2 (aCons (pCon (.int 1)) (aCons (pCa gMin2 (aCons (pCon (.int 3)) (aCons (pCa gLen (aCons (pName 0) aNil)) aNil))) aNil))) aNil) [some (.d (.ro (dints ns))), none] = some (rangeD 0 n, true) := by
    have x1 : pCa gLen (aCons (pName 0) aNil) [some (.d (.ro (dints ns))), none] = some (.fz (.int (ns.length : Int))) := by
      show some (RV.fz (.int ((dints ns).length : Nat))) = _
      rw [dints_length]
    have x2 : pCa gMin2 (aCons (pCon (.int 3)) (aCons (pCa gLen (aCons (pName 0) aNil)) aNil)) [some (.d (.ro (dints ns))), none] = some (.fz (.int (if (ns.length : Int) < 3 then (ns.length : Int) else 3))) :=
      (pCa_ok (aCons_ok (r := .fz (.int 3)) rfl (aCons_ok (rs := []) x1 rfl))).trans rfl
    have x3 : pCa gMax2 (aCons (pCon (.int 1)) (aCons (pCa gMin2 (aCons (pCon (.int 3)) (aCons (pCa gLen (aCons (pName 0) aNil)) aNil))) aNil)) [some (.d (.ro (dints ns))), none] = some (.fz (.int (if (if (ns.length : Int) < 3 then (ns.length : Int) else 3) > 1 then (if (ns.length : Int) < 3 then (ns.length : Int) else 3) else 1))) :=
      (pCa_ok (aCons_ok (r := .fz (.int 1)) rfl (aCons_ok (rs := []) x2 rfl))).trans rfl
    have c : (if (if (ns.length : Int) < 3 then (ns.length : Int) else 3) > 1 then (if (ns.length : Int) < 3 then (ns.length : Int) else 3) else 1) = 1 ∨ (if (if (ns.length : Int) < 3 then (ns.length : Int) else 3) > 1 then (if (ns.length : Int) < 3 then (ns.length : Int) else 3) else 1) = 2 ∨ (if (if (ns.length : Int) < 3 then (ns.length : Int) else 3) > 1 then (if (ns.length : Int) < 3 then (ns.length : Int) else 3) else 1) = 3 := by
      repeat' split
      all_goals omega
    rcases c with c | c | c
    · rw [c] at x3
      refine ⟨1, by decide, ?_⟩
      unfold iRg1
      rw [aCons_ok (rs := []) x3 rfl]
      rfl
    · rw [c] at x3
      refine ⟨2, by decide, ?_⟩
      unfold iRg1
      rw [aCons_ok (rs := []) x3 rfl]
      rfl
    · rw [c] at x3
      refine ⟨3, by decide, ?_⟩
      unfold iRg1
      rw [aCons_ok (rs := []) x3 rfl]
      rfl
  obtain ⟨n, hn, rg⟩ := rg
  have l := law_list ns (rangeD 0 n) fun d hd => by
    obtain ⟨i, hi, rfl⟩ := List.mem_map.mp hd
    have := List.mem_range.mp hi
    exact ⟨_, rfl, by omega, by omega⟩
  have hl : (((rangeD 0 n).map fun _ => true).map bl).length ≤ SZ := by
    unfold rangeD
    rw [List.length_map, List.length_map, List.length_map, List.length_range]
    unfold SZ
    omega
  have m : mLc [1] (iRg1 (aCons (pCa gMax2 (aCons (pCon (.int 1)) (aCons (pCa gMin2 (aCons (pCon (.int 3)) (aCons (pCa gLen (aCons (pName 0) aNil)) aNil))) aNil))) aNil)) (gNm 1) tAll M_r [some (.d (.ro (dints ns))), none] = .ok (.lst (((rangeD 0 n).map fun _ => true).map bl)) [some (.d (.ro (dints ns))), none] := by
    unfold mLc
    rw [rg]
    show (match lcM (gNm 1) tAll M_r [1] (rangeD 0 n) [some (.d (.ro (dints ns))), none] with
      | .ok xs e' => if xs.length ≤ SZ then Out.ok (.lst xs) (unw [1] [some (.d (.ro (dints ns))), none] e') else .stuck
      | _ => .stuck) = _
    rw [l]
    show (if (((rangeD 0 n).map fun _ => true).map bl).length ≤ SZ then Out.ok (.lst (((rangeD 0 n).map fun _ => true).map bl)) _ else .stuck) = _
    rw [if_pos hl]
    rfl
  have al : gAll [.lst (((rangeD 0 n).map fun _ => true).map bl)] = some (.fz (.bl true)) := by
    rw [gAll_bl]
    congr 3
    rw [List.all_map]
    exact List.all_eq_true.mpr fun _ _ => rfl
  have b : B_law [some (.d (.ro (dints ns))), none] = .rt (.d (.bl true)) [some (.d (.ro (dints ns))), none] := by
    unfold B_law sRet mCa lCons
    rw [m]
    show (rvO (gAll [.lst (((rangeD 0 n).map fun _ => true).map bl)]) [some (.d (.ro (dints ns))), none]).st _ = _
    rw [al]
    rfl
  refine ⟨[some (.d (.ro (dints ns)))], ?_⟩
  unfold F_law fnF
  rw [show lkOk [] 0 [.d (.ro (dints ns))] = true from rfl, if_pos rfl, show enter 2 [.d (.ro (dints ns))] = [some (.d (.ro (dints ns))), none] from rfl, b]
  rfl
end G76

set_option maxHeartbeats 0
theorem PySem.Challenge.cw_wordhandfuls_k76_whole_powers_and_least_holds : PySem.Challenge.rw_wordhandfuls_k76_whole_powers_and_least.Holds := by
  exact G76.holds_of fun ns _ => G76.law_true ns
