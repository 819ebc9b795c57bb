import PyProof.Rows.All
import Wide.All
import OpenK.AllK
import Wide.FinOn
import KE.KStateDown
import HandS.Head0
import HandS.Head1
import HandS.Head2
import HandS.HeadEnd
import HandS.HeadHook1
import HandS.HeadHook2
import PySem.Challenge.RW_tanhall_k02_whole_figures_put_together_f
import HandS.ForMost
import HandS.Wide
import HandS.Comp
import HandS.DictComp
import HandS.Ends
import HandS.TupLen
import HandS.Style
import HandS.TupLe
import HandS.Conv
import HandS.IsInst
import HandS.Walk
import HandS.Defaults
import HandS.Keys
import HandS.DictTup
import PyProof.Rows.SetFrom
import KE.KDictItemsList
import KE.KDictPairs
import HandS.OwnEq
import HandS.ListEq
import HandS.DictEq
import HandS.Set
import HandS.SetBool
import HandS.Deep
import HandS.TupAny
import HandS.Small
import HandS.More
import HandS.WideBits
import HandS.SortRule
import HandS.SortInts
import PyProof.Rows.TupDisplay
import KE.SortData
import KE.SortCalls
import PyProof.ReprBulk
import PyProof.Rows.ReprOcc
import PyProof.P3Eq
set_option Elab.async false
set_option linter.all false
set_option maxRecDepth 100000
section
set_option maxHeartbeats 4000000
/-! PD1: plain data in slots. A value is told by the plain data it stands for; a slot holds data that nobody changes (fro) or a container of its own (own). -/
namespace PD
open PySem PySem.Spec PyProof.Rows L2

/-! ### what a value stands for -/
def keyD : Key → PyData
  | .inl i => .int i
  | .inr x => .str x

/-- a list: the walk's own, or a written one -/
def LstOk (K : PySem.W.Frag) (F : Hp) (a : Addr) (vs : List V) : Prop := Rd F a (.lst vs) ∨ ∃ (its : Array Value) (n : Nat), K.lookup a = some { cls := .type "list", data := .seq its n } ∧ its.size ≤ sizeLine ∧ Vals vs its.toList
theorem LstOk.sq {K : PySem.W.Frag} {F : Hp} {a : Addr} {vs : List V} (h : LstOk K F a vs) : SqL K F a vs := by
  rcases h with h | ⟨its, n, h1, h2, h3⟩
  · exact .inl h
  · exact .inr ⟨_, its, n, h1, rfl, rfl, rfl, h2, h3⟩
def isKeyD : PyData → Bool
  | .int _ => true
  | .str _ => true
  | _ => false
/-- a tuple: the walk's own, or a written one that can be no key -/
def TupOk (K : PySem.W.Frag) (F : Hp) (a : Addr) (vs : List V) (xs : List PyData) : Prop := F a = some (.tup vs) ∨ (SqT K F a vs ∧ xs.all isKeyD = false)
theorem TupOk.sq {K : PySem.W.Frag} {F : Hp} {a : Addr} {vs : List V} {xs : List PyData} (h : TupOk K F a vs xs) : SqT K F a vs := by
  rcases h with h | ⟨h, _⟩
  · exact SqT.of h
  · exact h
mutual
def Rep (K : PySem.W.Frag) (F : Hp) : PyData → V → Prop
  | .none, v => v = .non
  | .bool b, v => v = .bl b
  | .int i, v => v = .int i
  | .str x, v => v = .str x
  | .list xs, v => ∃ a vs, v = .ref a ∧ LstOk K F a vs ∧ RepL K F xs vs
  | .tuple xs, v => ∃ a vs, v = .ref a ∧ TupOk K F a vs xs ∧ RepL K F xs vs
  | .dict kvs, v => ∃ a, v = .ref a ∧ ((∃ ks, Rd F a (.dT ks) ∧ RepT K F kvs ks) ∨ (∃ ks, Rd F a (.dK ks) ∧ RepA K F kvs ks))
def RepL (K : PySem.W.Frag) (F : Hp) : List PyData → List V → Prop
  | [], vs => vs = []
  | d :: ds, vs => ∃ v r, vs = v :: r ∧ Rep K F d v ∧ RepL K F ds r
def RepT (K : PySem.W.Frag) (F : Hp) : List (PyData × PyData) → List (List Key × V) → Prop
  | [], ks => ks = []
  | (k, d) :: r, ks => ∃ kk v r', ks = (kk, v) :: r' ∧ k = .tuple (kk.map keyD) ∧ Rep K F d v ∧ RepT K F r r'
def RepA (K : PySem.W.Frag) (F : Hp) : List (PyData × PyData) → List (Key × V) → Prop
  | [], ks => ks = []
  | (k, d) :: r, ks => ∃ kk v r', ks = (kk, v) :: r' ∧ k = keyD kk ∧ Rep K F d v ∧ RepA K F r r'
end

/-- H holds all of F, perhaps locked -/
def Ext (F H : Hp) : Prop := ∀ b o, F b = some o → H b = some o ∨ (Mut (some o) ∧ ∃ ob, H b = some (.frz ob o))
theorem Ext.refl (F : Hp) : Ext F F := fun _ _ h => .inl h
theorem Ext.of_same {F F' H : Hp} (s : Same F F') (e : Ext F' H) : Ext F H := fun b o h => e b o (s b o h)
theorem Ext.then_same {F H H' : Hp} (e : Ext F H) (s : Same H H') : Ext F H' := fun b o h => by
  rcases e b o h with q | ⟨m, ob, q⟩
  · exact .inl (s _ _ q)
  · exact .inr ⟨m, ob, s _ _ q⟩
theorem Same.ext {F F' : Hp} (s : Same F F') : Ext F F' := fun b o h => .inl (s b o h)
theorem Ext.rd {F H : Hp} (e : Ext F H) {a : Addr} {u : HO} (r : Rd F a u) : Rd H a u := by
  rcases r with r | ⟨o, r⟩
  · rcases e a u r with q | ⟨_, ob, q⟩
    · exact .inl q
    · exact .inr ⟨ob, q⟩
  · rcases e a _ r with q | ⟨m, _⟩
    · exact .inr ⟨o, q⟩
    · exact m.elim
theorem Ext.seqL {K : PySem.W.Frag} {F H : Hp} (e : Ext F H) {a : Addr} {xs : List V} (h : SqL K F a xs) : SqL K H a xs := by
  rcases h with h | h
  · exact .inl (e.rd h)
  · exact .inr h
theorem Ext.seqT {K : PySem.W.Frag} {F H : Hp} (e : Ext F H) {a : Addr} {xs : List V} (h : SqT K F a xs) : SqT K H a xs := by
  rcases h with h | h
  · exact .inl (e.rd h)
  · exact .inr h

theorem Ext.lstOk {K : PySem.W.Frag} {F H : Hp} (e : Ext F H) {a : Addr} {vs : List V} (h : LstOk K F a vs) : LstOk K H a vs := by
  rcases h with h | h
  · exact .inl (e.rd h)
  · exact .inr h
theorem Ext.tup {F H : Hp} (e : Ext F H) {a : Addr} {vs : List V} (h : F a = some (.tup vs)) : H a = some (.tup vs) := by
  rcases e a _ h with q | ⟨m, _⟩
  · exact q
  · exact m.elim
theorem Ext.tupOk {K : PySem.W.Frag} {F H : Hp} (e : Ext F H) {a : Addr} {vs : List V} {xs : List PyData} (h : TupOk K F a vs xs) : TupOk K H a vs xs := by
  rcases h with h | ⟨h, n⟩
  · exact .inl (e.tup h)
  · exact .inr ⟨e.seqT h, n⟩
section
variable {K : PySem.W.Frag} {F H : Hp}
mutual
theorem Rep.ext (e : Ext F H) : ∀ (d : PyData) (v : V), Rep K F d v → Rep K H d v
  | .none, _, h => h
  | .bool _, _, h => h
  | .int _, _, h => h
  | .str _, _, h => h
  | .list xs, v, h => by
    obtain ⟨a, vs, h1, h2, h3⟩ := h
    exact ⟨a, vs, h1, e.lstOk h2, RepL.ext e xs vs h3⟩
  | .tuple xs, v, h => by
    obtain ⟨a, vs, h1, h2, h3⟩ := h
    exact ⟨a, vs, h1, e.tupOk h2, RepL.ext e xs vs h3⟩
  | .dict kvs, v, h => by
    obtain ⟨a, h1, h2⟩ := h
    refine ⟨a, h1, ?_⟩
    rcases h2 with ⟨ks, h2, h3⟩ | ⟨ks, h2, h3⟩
    · exact .inl ⟨ks, e.rd h2, RepT.ext e kvs ks h3⟩
    · exact .inr ⟨ks, e.rd h2, RepA.ext e kvs ks h3⟩
theorem RepL.ext (e : Ext F H) : ∀ (ds : List PyData) (vs : List V), RepL K F ds vs → RepL K H ds vs
  | [], _, h => h
  | d :: ds, vs, h => by
    obtain ⟨v, r, h1, h2, h3⟩ := h
    exact ⟨v, r, h1, Rep.ext e d v h2, RepL.ext e ds r h3⟩
theorem RepT.ext (e : Ext F H) : ∀ (ds : List (PyData × PyData)) (ks : List (List Key × V)), RepT K F ds ks → RepT K H ds ks
  | [], _, h => h
  | (k, d) :: ds, vs, h => by
    obtain ⟨kk, v, r, h1, h2, h3, h4⟩ := h
    exact ⟨kk, v, r, h1, h2, Rep.ext e d v h3, RepT.ext e ds r h4⟩
theorem RepA.ext (e : Ext F H) : ∀ (ds : List (PyData × PyData)) (ks : List (Key × V)), RepA K F ds ks → RepA K H ds ks
  | [], _, h => h
  | (k, d) :: ds, vs, h => by
    obtain ⟨kk, v, r, h1, h2, h3, h4⟩ := h
    exact ⟨kk, v, r, h1, h2, Rep.ext e d v h3, RepA.ext e ds r h4⟩
end
theorem Rep.same (s : Same F H) {d : PyData} {v : V} (h : Rep K F d v) : Rep K H d v := Rep.ext (Same.ext s) d v h
theorem RepL.same (s : Same F H) {d : List PyData} {v : List V} (h : RepL K F d v) : RepL K H d v := RepL.ext (Same.ext s) d v h
theorem RepT.same (s : Same F H) {d : List (PyData × PyData)} {v : List (List Key × V)} (h : RepT K F d v) : RepT K H d v := RepT.ext (Same.ext s) d v h
theorem RepA.same (s : Same F H) {d : List (PyData × PyData)} {v : List (Key × V)} (h : RepA K F d v) : RepA K H d v := RepA.ext (Same.ext s) d v h

theorem RepL.length : ∀ {ds : List PyData} {vs : List V}, RepL K F ds vs → vs.length = ds.length
  | [], _, h => by
    have h' : _ = [] := h
    rw [h']
    rfl
  | d :: ds, _, h => by
    obtain ⟨v, r, rfl, _, h3⟩ := h
    rw [List.length_cons, List.length_cons, RepL.length h3]
theorem RepT.length : ∀ {ds : List (PyData × PyData)} {vs : List (List Key × V)}, RepT K F ds vs → vs.length = ds.length
  | [], _, h => by
    have h' : _ = [] := h
    rw [h']
    rfl
  | (k, d) :: ds, _, h => by
    obtain ⟨_, v, r, rfl, _, _, h3⟩ := h
    rw [List.length_cons, List.length_cons, RepT.length h3]
theorem RepA.length : ∀ {ds : List (PyData × PyData)} {vs : List (Key × V)}, RepA K F ds vs → vs.length = ds.length
  | [], _, h => by
    have h' : _ = [] := h
    rw [h']
    rfl
  | (k, d) :: ds, _, h => by
    obtain ⟨_, v, r, rfl, _, _, h3⟩ := h
    rw [List.length_cons, List.length_cons, RepA.length h3]
theorem RepL.cons {d : PyData} {ds : List PyData} {v : V} {vs : List V} (h : Rep K F d v) (t : RepL K F ds vs) : RepL K F (d :: ds) (v :: vs) := ⟨v, vs, rfl, h, t⟩
theorem RepL.nil : RepL K F [] [] := rfl
theorem RepL.append : ∀ {ds es : List PyData} {vs ws : List V}, RepL K F ds vs → RepL K F es ws → RepL K F (ds ++ es) (vs ++ ws)
  | [], _, _, _, h, t => by
    have h' : _ = [] := h
    subst h'
    exact t
  | d :: ds, es, _, ws, h, t => by
    obtain ⟨v, r, rfl, h2, h3⟩ := h
    exact ⟨v, r ++ ws, rfl, h2, RepL.append h3 t⟩
theorem RepL.get : ∀ {ds : List PyData} {vs : List V} {i : Nat} {d : PyData}, RepL K F ds vs → ds[i]? = some d → ∃ v, vs[i]? = some v ∧ Rep K F d v
  | [], _, _, _, _, e => by simp at e
  | d :: ds, _, 0, _, h, e => by
    obtain ⟨v, r, rfl, h2, h3⟩ := h
    have e' : d = _ := Option.some.inj e
    subst e'
    exact ⟨v, rfl, h2⟩
  | d :: ds, _, i + 1, _, h, e => by
    obtain ⟨v, r, rfl, h2, h3⟩ := h
    exact RepL.get (i := i) h3 (by simpa using e)
theorem RepL.take : ∀ {ds : List PyData} {vs : List V} (n : Nat), RepL K F ds vs → RepL K F (ds.take n) (vs.take n)
  | _, _, 0, _ => rfl
  | [], _, n + 1, h => by
    have h' : _ = [] := h
    subst h'
    exact rfl
  | d :: ds, _, n + 1, h => by
    obtain ⟨v, r, rfl, h2, h3⟩ := h
    exact ⟨v, r.take n, rfl, h2, RepL.take n h3⟩
theorem RepL.drop : ∀ {ds : List PyData} {vs : List V} (n : Nat), RepL K F ds vs → RepL K F (ds.drop n) (vs.drop n)
  | _, _, 0, h => h
  | [], _, n + 1, h => by
    have h' : _ = [] := h
    subst h'
    exact rfl
  | d :: ds, _, n + 1, h => by
    obtain ⟨v, r, rfl, h2, h3⟩ := h
    exact RepL.drop n h3
theorem RepL.set : ∀ {ds : List PyData} {vs : List V} (n : Nat) {d : PyData} {v : V}, RepL K F ds vs → Rep K F d v → RepL K F (ds.set n d) (vs.set n v)
  | [], _, n, _, _, h, _ => by
    have h' : _ = [] := h
    subst h'
    exact rfl
  | d :: ds, _, 0, _, _, h, q => by
    obtain ⟨v, r, rfl, h2, h3⟩ := h
    exact ⟨_, r, rfl, q, h3⟩
  | d :: ds, _, n + 1, _, _, h, q => by
    obtain ⟨v, r, rfl, h2, h3⟩ := h
    exact ⟨v, r.set n _, rfl, h2, RepL.set n h3 q⟩
theorem RepL.eraseIdx : ∀ {ds : List PyData} {vs : List V} (n : Nat), RepL K F ds vs → RepL K F (ds.eraseIdx n) (vs.eraseIdx n)
  | [], _, n, h => by
    have h' : _ = [] := h
    subst h'
    exact rfl
  | d :: ds, _, 0, h => by
    obtain ⟨v, r, rfl, h2, h3⟩ := h
    exact h3
  | d :: ds, _, n + 1, h => by
    obtain ⟨v, r, rfl, h2, h3⟩ := h
    exact ⟨v, r.eraseIdx n, rfl, h2, RepL.eraseIdx n h3⟩
end

/-! ### containers of one's own, slots -/
inductive Own where
  | lst (ds : List PyData)
  | dct (kvs : List (PyData × PyData))
  | dck (kvs : List (PyData × PyData))
def Own.toD : Own → PyData
  | .lst ds => .list ds
  | .dct kvs => .dict kvs
  | .dck kvs => .dict kvs
def OwnOk (K : PySem.W.Frag) (F H : Hp) (p : Addr) : Own → Prop
  | .lst ds => ∃ vs, H p = some (.lst vs) ∧ RepL K F ds vs
  | .dct kvs => ∃ ks, H p = some (.dT ks) ∧ RepT K F kvs ks
  | .dck kvs => ∃ ks, H p = some (.dK ks) ∧ RepA K F kvs ks
theorem OwnOk.there {K : PySem.W.Frag} {F H : Hp} {p : Addr} {c : Own} (h : OwnOk K F H p c) : ∃ o, H p = some o ∧ Mut (some o) := by
  cases c with
  | lst ds =>
    obtain ⟨vs, h, _⟩ := h
    exact ⟨_, h, trivial⟩
  | dct ds =>
    obtain ⟨vs, h, _⟩ := h
    exact ⟨_, h, trivial⟩
  | dck ds =>
    obtain ⟨vs, h, _⟩ := h
    exact ⟨_, h, trivial⟩
theorem OwnOk.keep {K : PySem.W.Frag} {F F' H H' : Hp} {p : Addr} {c : Own} (h : OwnOk K F H p c) (s : Same F F') (k : ∀ o, H p = some o → H' p = some o) : OwnOk K F' H' p c := by
  cases c with
  | lst ds =>
    obtain ⟨vs, h, r⟩ := h
    exact ⟨vs, k _ h, r.same s⟩
  | dct ds =>
    obtain ⟨vs, h, r⟩ := h
    exact ⟨vs, k _ h, r.same s⟩
  | dck ds =>
    obtain ⟨vs, h, r⟩ := h
    exact ⟨vs, k _ h, r.same s⟩
/-- an own container, told as data over the whole heap -/
theorem OwnOk.rep {K : PySem.W.Frag} {F H : Hp} {p : Addr} {c : Own} (h : OwnOk K F H p c) (e : Ext F H) : Rep K H c.toD (.ref p) := by
  cases c with
  | lst ds =>
    obtain ⟨vs, h, r⟩ := h
    exact ⟨p, vs, rfl, .inl (.inl h), RepL.ext e _ _ r⟩
  | dct ds =>
    obtain ⟨vs, h, r⟩ := h
    exact ⟨p, rfl, .inl ⟨vs, .inl h, RepT.ext e _ _ r⟩⟩
  | dck ds =>
    obtain ⟨vs, h, r⟩ := h
    exact ⟨p, rfl, .inr ⟨vs, .inl h, RepA.ext e _ _ r⟩⟩
/-- .. from now on nobody changes it -/
theorem OwnOk.freeze {K : PySem.W.Frag} {F H : Hp} {p : Addr} {c : Own} (h : OwnOk K F H p c) (e : Ext F H) (hF : F p = none) :
    ∃ F', Same F F' ∧ Ext F' H ∧ Rep K F' c.toD (.ref p) ∧ (∀ b, b ≠ p → F' b = F b) := by
  obtain ⟨o, ho, _⟩ := h.there
  have s : Same F (upd F p o) := fun b x q => by rw [upd_ne (ne_of_none q hF)]; exact q
  refine ⟨upd F p o, s, fun b x q => ?_, ?_, fun b hb => upd_ne hb⟩
  · by_cases hb : b = p
    · subst hb
      rw [upd_same] at q
      cases q
      exact .inl ho
    · rw [upd_ne hb] at q
      exact e b x q
  · cases c with
    | lst ds =>
      obtain ⟨vs, h, r⟩ := h
      rw [h] at ho
      cases ho
      exact ⟨p, vs, rfl, .inl (.inl upd_same), r.same s⟩
    | dct ds =>
      obtain ⟨vs, h, r⟩ := h
      rw [h] at ho
      cases ho
      exact ⟨p, rfl, .inl ⟨vs, .inl upd_same, r.same s⟩⟩
    | dck ds =>
      obtain ⟨vs, h, r⟩ := h
      rw [h] at ho
      cases ho
      exact ⟨p, rfl, .inr ⟨vs, .inl upd_same, r.same s⟩⟩

inductive SV where
  | fro (d : PyData)
  | own (t : Option Nat) (c : Own)
def SV.toD : SV → PyData
  | .fro d => d
  | .own _ c => c.toD
abbrev Env := List (Option SV)

/-- a state: F is what nobody changes, H all, σ the slots' values, Γ what they stand for -/
structure Sx where
  F : Hp
  H : Hp
  σ : L2.St
  Γ : Env
def IsOwn (Γ : Env) (σ : L2.St) (p : Addr) : Prop := ∃ (i : Nat) (t : Option Nat) (c : Own), Γ[i]? = some (some (.own t c)) ∧ σ[i]? = some (some (.ref p))
/-- what is fixed for a def's run: the written part, the arguments, the heap at the entry -/
structure Bx where
  K : PySem.W.Frag
  vs : List V
  H0 : Hp
def Tag (B : Bx) (p : Addr) : Option Nat → Prop
  | none => B.H0 p = none
  | some k => B.vs[k]? = some (.ref p)
structure Ok (B : Bx) (s : Sx) : Prop where
  ext : Ext s.F s.H
  len : s.σ.length = s.Γ.length
  fro : ∀ (i : Nat) d, s.Γ[i]? = some (some (.fro d)) → ∃ v, s.σ[i]? = some (some v) ∧ Rep B.K s.F d v
  own : ∀ (i : Nat) t c, s.Γ[i]? = some (some (.own t c)) → ∃ p, s.σ[i]? = some (some (.ref p)) ∧ s.F p = none ∧ OwnOk B.K s.F s.H p c ∧ Tag B p t
  dis : ∀ (i j : Nat) t t' c c' p, s.Γ[i]? = some (some (.own t c)) → s.Γ[j]? = some (some (.own t' c')) → s.σ[i]? = some (some (.ref p)) → s.σ[j]? = some (some (.ref p)) → i = j
  dom : ∀ p o, B.H0 p = some o → ∃ o', s.H p = some o'
structure Step (s s' : Sx) : Prop where
  same : Same s.F s'.F
  fr : ∀ p o, s.H p = some o → ¬ IsOwn s.Γ s.σ p → s'.H p = some o
  th : ∀ p o, s.H p = some o → ∃ o', s'.H p = some o'
  ow : ∀ p, IsOwn s'.Γ s'.σ p → IsOwn s.Γ s.σ p ∨ s.H p = none
  fh : ∀ p o, s'.F p = some o → s.F p = some o ∨ IsOwn s.Γ s.σ p ∨ s.H p = none ∨ ¬ Mut (some o)
theorem Step.refl (s : Sx) : Step s s := ⟨Same.refl _, fun _ _ h _ => h, fun _ o h => ⟨o, h⟩, fun _ h => .inl h, fun _ _ h => .inl h⟩
theorem Step.none_back {s s' : Sx} (a : Step s s') {p : Addr} (h : s'.H p = none) : s.H p = none := by
  cases q : s.H p with
  | none => rfl
  | some o =>
    obtain ⟨o', q'⟩ := a.th p o q
    rw [h] at q'
    cases q'
theorem Step.trans {a b c : Sx} (x : Step a b) (y : Step b c) : Step a c := by
  refine ⟨x.same.trans y.same, fun p o h n => ?_, fun p o h => ?_, fun p h => ?_, fun p o h => ?_⟩
  · refine y.fr p o (x.fr p o h n) fun q => ?_
    rcases x.ow p q with q | q
    · exact n q
    · rw [h] at q
      cases q
  · obtain ⟨o1, h1⟩ := x.th p o h
    exact y.th p o1 h1
  · rcases y.ow p h with q | q
    · exact x.ow p q
    · exact .inr (x.none_back q)
  · rcases y.fh p o h with q | q | q | q
    · exact x.fh p o q
    · rcases x.ow p q with z | z
      · exact .inr (.inl z)
      · exact .inr (.inr (.inl z))
    · exact .inr (.inr (.inl (x.none_back q)))
    · exact .inr (.inr (.inr q))

/-! ### the heap grows by new objects alone -/
structure Grow (F H F' H' : Hp) : Prop where
  same : Same F F'
  ext : Ext F' H'
  hh : Same H H'
  fh : ∀ p o, F' p = some o → F p = some o ∨ H p = none ∨ ¬ Mut (some o)
theorem Grow.refl {F H : Hp} (e : Ext F H) : Grow F H F H := ⟨Same.refl _, e, Same.refl _, fun _ _ h => .inl h⟩
theorem Grow.trans {F H F1 H1 F2 H2 : Hp} (a : Grow F H F1 H1) (b : Grow F1 H1 F2 H2) : Grow F H F2 H2 :=
  ⟨a.same.trans b.same, b.ext, a.hh.trans b.hh, fun p o h => by
    rcases b.fh p o h with q | q | q
    · exact a.fh p o q
    · exact .inr (.inl (a.hh.free q))
    · exact .inr (.inr q)⟩
theorem same_upd {H : Hp} {p : Addr} {o : HO} (h : H p = none) : Same H (upd H p o) := fun b x e => by
  rw [upd_ne (ne_of_none e h)]
  exact e
theorem Ext.none {F H : Hp} (e : Ext F H) {p : Addr} (h : H p = none) : F p = none := by
  cases q : F p with
  | none => rfl
  | some o =>
    rcases e p o q with z | ⟨_, _, z⟩
    · rw [h] at z; cases z
    · rw [h] at z; cases z
/-- a new object that is nobody's yet -/
theorem Grow.new {F H : Hp} (e : Ext F H) {p : Addr} (o : HO) (hp : H p = none) : Grow F H F (upd H p o) :=
  ⟨Same.refl _, e.then_same (same_upd hp), same_upd hp, fun _ _ h => .inl h⟩
/-- a new object that nobody changes -/
theorem Grow.newF {F H : Hp} (e : Ext F H) {p : Addr} (o : HO) (hp : H p = none) : Grow F H (upd F p o) (upd H p o) := by
  have hF := e.none hp
  refine ⟨same_upd hF, fun b x q => ?_, same_upd hp, fun b x q => ?_⟩
  · by_cases hb : b = p
    · subst hb
      rw [upd_same] at q
      rw [upd_same]
      exact .inl q
    · rw [upd_ne hb] at q
      rw [upd_ne hb]
      exact e b x q
  · by_cases hb : b = p
    · subst hb
      exact .inr (.inl hp)
    · rw [upd_ne hb] at q
      exact .inl q
/-- all tuples belong to nobody -/
def plus (F H : Hp) : Hp := fun b => match F b with
  | some o => some o
  | none => match H b with
    | some (.tup xs) => some (.tup xs)
    | _ => none
theorem plus_of {F H : Hp} {b : Addr} {o : HO} (h : plus F H b = some o) : F b = some o ∨ ∃ xs, o = .tup xs ∧ H b = some (.tup xs) := by
  unfold plus at h
  split at h
  · rename_i x e
    exact .inl (by rw [e]; exact h)
  · split at h
    · rename_i xs e
      cases h
      exact .inr ⟨xs, rfl, e⟩
    · cases h
theorem plus_tup {F H : Hp} (e : Ext F H) {b : Addr} {xs : List V} (h : H b = some (.tup xs)) : plus F H b = some (.tup xs) := by
  unfold plus
  cases q : F b with
  | some o =>
    rcases e b o q with z | ⟨m, ob, z⟩
    · rw [h] at z
      cases z
      rfl
    · rw [h] at z
      cases z
  | none =>
    simp only [h]
theorem Grow.tups {F H : Hp} (e : Ext F H) : Grow F H (plus F H) H := by
  refine ⟨fun b o q => ?_, fun b o q => ?_, Same.refl _, fun b o q => ?_⟩
  · unfold plus
    rw [q]
  · rcases plus_of q with z | ⟨xs, rfl, z⟩
    · exact e b o z
    · exact .inl z
  · rcases plus_of q with z | ⟨xs, rfl, z⟩
    · exact .inl z
    · exact .inr (.inr fun z => z)
theorem Ext.immut {F H : Hp} (e : Ext F H) {p : Addr} {o u : HO} (h : F p = some o) (h' : H p = some u) (m : Mut (some u)) : Mut (some o) := by
  rcases e p o h with q | ⟨m', _⟩
  · rw [h'] at q
    cases q
    exact m
  · exact m'
theorem Ok.grow {B : Bx} {F H F' H' : Hp} {σ : L2.St} {Γ : Env} (k : Ok B ⟨F, H, σ, Γ⟩) (g : Grow F H F' H') : Ok B ⟨F', H', σ, Γ⟩ ∧ Step ⟨F, H, σ, Γ⟩ ⟨F', H', σ, Γ⟩ := by
  refine ⟨⟨g.ext, k.len, fun i d e => ?_, fun i t c e => ?_, k.dis, fun p o h => ?_⟩, ⟨g.same, fun p o h _ => g.hh p o h, fun p o h => ⟨o, g.hh p o h⟩, fun _ h => .inl h, fun p o h => ?_⟩⟩
  · obtain ⟨v, h1, h2⟩ := k.fro i d e
    exact ⟨v, h1, h2.same g.same⟩
  · obtain ⟨p, h1, h2, h3, h4⟩ := k.own i t c e
    refine ⟨p, h1, ?_, h3.keep g.same fun o q => g.hh p o q, h4⟩
    obtain ⟨o, ho, hm⟩ := h3.there
    show F' p = none
    cases q : F' p with
    | none => rfl
    | some x =>
      rcases g.fh p x q with z | z | z
      · have z' : F p = none := h2
        rw [z'] at z
        cases z
      · have z' : H p = some o := ho
        rw [z'] at z
        cases z
      · exact (z (g.ext.immut q (g.hh p o ho) hm)).elim
  · obtain ⟨o', h'⟩ := k.dom p o h
    exact ⟨o', g.hh p o' h'⟩
  · rcases g.fh p o h with q | q | q
    · exact .inl q
    · exact .inr (.inr (.inl q))
    · exact .inr (.inr (.inr q))

/-! ### what an expression gives -/
inductive RV where
  | fro (d : PyData)
  | nw (c : Own)
def RV.toD : RV → PyData
  | .fro d => d
  | .nw c => c.toD
inductive Res (α : Type) where
  | ok (a : α) (Γ : Env)
  | bad
def Res.bind {α β : Type} (x : Res α) (f : α → Env → Res β) : Res β := match x with
  | .ok a Γ => f a Γ
  | .bad => .bad
@[simp] theorem Res.bind_ok {α β : Type} (a : α) (Γ : Env) (f : α → Env → Res β) : (Res.ok a Γ).bind f = f a Γ := rfl
@[simp] theorem Res.bind_bad {α β : Type} (f : α → Env → Res β) : (Res.bad : Res α).bind f = .bad := rfl
theorem Res.of_bind {α β : Type} {x : Res α} {f : α → Env → Res β} {b : β} {Γ' : Env} (h : x.bind f = .ok b Γ') : ∃ a Γ, x = .ok a Γ ∧ f a Γ = .ok b Γ' := by
  cases x with
  | ok a Γ => exact ⟨a, Γ, rfl, h⟩
  | bad => cases h
def ofOpt {α : Type} (o : Option α) (Γ : Env) : Res α := match o with
  | some a => .ok a Γ
  | none => .bad
@[simp] theorem ofOpt_some {α : Type} (a : α) (Γ : Env) : ofOpt (some a) Γ = .ok a Γ := rfl
@[simp] theorem ofOpt_none {α : Type} (Γ : Env) : (ofOpt none Γ : Res α) = .bad := rfl
theorem of_ofOpt {α : Type} {o : Option α} {a : α} {Γ Γ' : Env} (h : ofOpt o Γ = .ok a Γ') : o = some a ∧ Γ' = Γ := by
  cases o with
  | some b => cases h; exact ⟨rfl, rfl⟩
  | none => cases h
/-- what slot i stands for -/
def slotD (i : Nat) (Γ : Env) : Option SV := (Γ[i]?).bind id
theorem of_slotD {i : Nat} {Γ : Env} {sv : SV} (h : slotD i Γ = some sv) : Γ[i]? = some (some sv) := by
  unfold slotD at h
  cases e : Γ[i]? with
  | none => rw [e] at h; cases h
  | some o =>
    rw [e] at h
    have h' : o = some sv := h
    rw [h']
/-- the value of an expression, seen from the heap H ahead of it -/
def RVg (K : PySem.W.Frag) (F' H' H : Hp) (v : V) : RV → Prop
  | .fro d => Rep K F' d v
  | .nw c => ∃ p, v = .ref p ∧ F' p = none ∧ OwnOk K F' H' p c ∧ H p = none
def RVok (B : Bx) (s s' : Sx) (v : V) : RV → Prop
  | .fro d => Rep B.K s'.F d v
  | .nw c => ∃ p, v = .ref p ∧ s'.F p = none ∧ OwnOk B.K s'.F s'.H p c ∧ s.H p = none ∧ ¬ IsOwn s'.Γ s'.σ p
abbrev EF := Env → Res RV
def toTE (B : Bx) (f : EF) : TE := fun σ H Q => ∃ F Γ, Ok B ⟨F, H, σ, Γ⟩ ∧ match f Γ with
  | .ok r Γ' => ∀ v F' H', Ok B ⟨F', H', σ, Γ'⟩ → Step ⟨F, H, σ, Γ⟩ ⟨F', H', σ, Γ'⟩ → RVok B ⟨F, H, σ, Γ⟩ ⟨F', H', σ, Γ'⟩ v r → Q v H'
  | .bad => False
theorem toTE_mk {B : Bx} {f : EF} {F H : Hp} {σ : L2.St} {Γ Γ' : Env} {r : RV} {Q : VK} (k : Ok B ⟨F, H, σ, Γ⟩) (e : f Γ = .ok r Γ')
    (h : ∀ v F' H', Ok B ⟨F', H', σ, Γ'⟩ → Step ⟨F, H, σ, Γ⟩ ⟨F', H', σ, Γ'⟩ → RVok B ⟨F, H, σ, Γ⟩ ⟨F', H', σ, Γ'⟩ v r → Q v H') : toTE B f σ H Q := by
  refine ⟨F, Γ, k, ?_⟩
  rw [e]
  exact h
theorem toTE_ok {B : Bx} {f : EF} {σ : L2.St} {H : Hp} {Q : VK} (h : toTE B f σ H Q) : ∃ F Γ r Γ', Ok B ⟨F, H, σ, Γ⟩ ∧ f Γ = .ok r Γ' ∧
    ∀ v F' H', Ok B ⟨F', H', σ, Γ'⟩ → Step ⟨F, H, σ, Γ⟩ ⟨F', H', σ, Γ'⟩ → RVok B ⟨F, H, σ, Γ⟩ ⟨F', H', σ, Γ'⟩ v r → Q v H' := by
  obtain ⟨F, Γ, k, h⟩ := h
  cases e : f Γ with
  | ok r Γ' =>
    rw [e] at h
    exact ⟨F, Γ, r, Γ', k, e, h⟩
  | bad =>
    rw [e] at h
    exact h.elim
/-- the value as data that nobody changes -/
theorem RVok.fro {B : Bx} {s s' : Sx} {v : V} {r : RV} (h : RVok B s s' v r) (k : Ok B s') : ∃ F2, Ok B ⟨F2, s'.H, s'.σ, s'.Γ⟩ ∧ Same s'.F F2 ∧ (∀ p o, F2 p = some o → s'.F p = some o ∨ s.H p = none) ∧ Rep B.K F2 r.toD v := by
  cases r with
  | fro d => exact ⟨s'.F, k, Same.refl _, fun _ _ q => .inl q, h⟩
  | nw c =>
    obtain ⟨p, rfl, h2, h3, h4, h5⟩ := h
    obtain ⟨F2, a1, a2, a3, a4⟩ := h3.freeze k.ext h2
    refine ⟨F2, ⟨a2, k.len, fun i d e => ?_, fun i t c e => ?_, k.dis, k.dom⟩, a1, fun b o q => ?_, a3⟩
    · obtain ⟨w, q1, q2⟩ := k.fro i d e
      exact ⟨w, q1, q2.same a1⟩
    · obtain ⟨q, q1, q2, q3, q4⟩ := k.own i t c e
      refine ⟨q, q1, ?_, q3.keep a1 fun _ z => z, q4⟩
      have hq : q ≠ p := fun z => h5 ⟨i, t, c, e, by rw [← z]; exact q1⟩
      show F2 q = none
      rw [a4 q hq]
      exact q2
    · by_cases hb : b = p
      · subst hb
        exact .inr h4
      · rw [a4 b hb] at q
        exact .inl q
/-- an expression run, its value frozen -/
theorem toTE_fro {B : Bx} {f : EF} {F H : Hp} {σ : L2.St} {Γ Γ' : Env} {r : RV} {Q : VK} (k : Ok B ⟨F, H, σ, Γ⟩) (e : f Γ = .ok r Γ')
    (h : ∀ v F' H', Ok B ⟨F', H', σ, Γ'⟩ → Step ⟨F, H, σ, Γ⟩ ⟨F', H', σ, Γ'⟩ → Rep B.K F' r.toD v → Q v H') : toTE B f σ H Q := by
  refine toTE_mk k e fun v F' H' k' st rv => ?_
  obtain ⟨F2, k2, sm, fh, rp⟩ := rv.fro k'
  refine h v F2 H' k2 ⟨st.same.trans sm, st.fr, st.th, st.ow, fun p o q => ?_⟩ rp
  rcases fh p o q with z | z
  · exact st.fh p o z
  · exact .inr (.inr (.inl z))
end PD
end

section
set_option maxHeartbeats 4000000
/-! PD2: arguments, operations by data, expressions. -/
namespace PD
open PySem PySem.Spec PyProof.Rows L2

/-! ### a value that is read: frozen data or a container of one's own -/
def RepB (K : PySem.W.Frag) (F H : Hp) (d : PyData) (v : V) : Prop := Rep K F d v ∨ ∃ p c, v = .ref p ∧ d = c.toD ∧ OwnOk K F H p c ∧ F p = none
def RepBs (K : PySem.W.Frag) (F H : Hp) : List PyData → List V → Prop
  | [], vs => vs = []
  | d :: ds, vs => ∃ v r, vs = v :: r ∧ RepB K F H d v ∧ RepBs K F H ds r
section
variable {K : PySem.W.Frag} {F H : Hp} {v : V}
theorem RepB.rep {d : PyData} (h : RepB K F H d v) (e : Ext F H) : Rep K H d v := by
  rcases h with h | ⟨p, c, rfl, rfl, h, _⟩
  · exact Rep.ext e d v h
  · exact h.rep e
theorem RepB.int {i : Int} (h : RepB K F H (.int i) v) : v = .int i := by
  rcases h with h | ⟨p, c, rfl, h, _, _⟩
  · exact h
  · cases c <;> cases h
theorem RepB.bool {i : Bool} (h : RepB K F H (.bool i) v) : v = .bl i := by
  rcases h with h | ⟨p, c, rfl, h, _, _⟩
  · exact h
  · cases c <;> cases h
theorem RepB.str {i : Str} (h : RepB K F H (.str i) v) : v = .str i := by
  rcases h with h | ⟨p, c, rfl, h, _, _⟩
  · exact h
  · cases c <;> cases h
theorem RepB.none (h : RepB K F H .none v) : v = .non := by
  rcases h with h | ⟨p, c, rfl, h, _, _⟩
  · exact h
  · cases c <;> cases h
theorem RepB.list {ds : List PyData} (h : RepB K F H (.list ds) v) (e : Ext F H) : ∃ a vs, v = .ref a ∧ SqL K H a vs ∧ RepL K F ds vs := by
  rcases h with ⟨a, vs, rfl, h1, h2⟩ | ⟨p, c, rfl, h, h2, _⟩
  · exact ⟨a, vs, rfl, e.seqL h1.sq, h2⟩
  · cases c <;> cases h
    obtain ⟨vs, h3, h4⟩ := h2
    exact ⟨p, vs, rfl, SqL.of h3, h4⟩
theorem RepB.tuple {ds : List PyData} (h : RepB K F H (.tuple ds) v) (e : Ext F H) : ∃ a vs, v = .ref a ∧ SqT K H a vs ∧ RepL K F ds vs ∧ Rep K F (.tuple ds) v := by
  rcases h with h | ⟨p, c, rfl, h, h2, _⟩
  · obtain ⟨a, vs, rfl, h1, h2⟩ := id h
    exact ⟨a, vs, rfl, e.seqT h1.sq, h2, h⟩
  · cases c <;> cases h
theorem RepB.dict {ds : List (PyData × PyData)} (h : RepB K F H (.dict ds) v) (e : Ext F H) : ∃ a, v = .ref a ∧ ((∃ ks, Rd H a (.dT ks) ∧ RepT K F ds ks) ∨ (∃ ks, Rd H a (.dK ks) ∧ RepA K F ds ks)) := by
  rcases h with ⟨a, rfl, h⟩ | ⟨p, c, rfl, h, h2, _⟩
  · refine ⟨a, rfl, ?_⟩
    rcases h with ⟨ks, h1, h2⟩ | ⟨ks, h1, h2⟩
    · exact .inl ⟨ks, e.rd h1, h2⟩
    · exact .inr ⟨ks, e.rd h1, h2⟩
  · cases c with
    | lst _ => cases h
    | dct _ =>
      cases h
      obtain ⟨ks, h3, h4⟩ := h2
      exact ⟨p, rfl, .inl ⟨ks, .inl h3, h4⟩⟩
    | dck _ =>
      cases h
      obtain ⟨ks, h3, h4⟩ := h2
      exact ⟨p, rfl, .inr ⟨ks, .inl h3, h4⟩⟩
theorem RepBs.one {d : PyData} {vs : List V} (h : RepBs K F H [d] vs) : ∃ x, vs = [x] ∧ RepB K F H d x := by
  obtain ⟨v, r, rfl, h1, h2⟩ := h
  have h3 : r = [] := h2
  subst h3
  exact ⟨v, rfl, h1⟩
theorem RepBs.two {d e : PyData} {vs : List V} (h : RepBs K F H [d, e] vs) : ∃ x y, vs = [x, y] ∧ RepB K F H d x ∧ RepB K F H e y := by
  obtain ⟨v, r, rfl, h1, h2⟩ := h
  obtain ⟨y, rfl, h3⟩ := h2.one
  exact ⟨v, y, rfl, h1, h3⟩
end

/-- what an operation on data asks and gives -/
def rD (K : PySem.W.Frag) (op : List PyData → Option RV) : List V → Hp → VK → Prop := fun vs H Q =>
  ∃ F ds rv, Ext F H ∧ RepBs K F H ds vs ∧ op ds = some rv ∧ ∀ v F' H', Grow F H F' H' → RVg K F' H' H v rv → Q v H'
def rD2 (K : PySem.W.Frag) (op : List PyData → Option RV) : R2 := fun x y H Q => rD K op [x, y] H Q
def rD1 (K : PySem.W.Frag) (op : List PyData → Option RV) : V → Hp → VK → Prop := fun x H Q => rD K op [x] H Q

/-! ### arguments -/
inductive ArgF where
  | e (f : EF)
  | s (i : Nat)
inductive AV where
  | d (d : PyData)
  | s (i : Nat)
def evalArg : ArgF → Env → Res AV
  | .e f, Γ => (f Γ).bind fun r Γ' => .ok (.d r.toD) Γ'
  | .s i, Γ => (ofOpt (slotD i Γ) Γ).bind fun _ Γ' => .ok (.s i) Γ'
def evalArgs : List ArgF → Env → Res (List AV)
  | [], Γ => .ok [] Γ
  | a :: as, Γ => (evalArg a Γ).bind fun v Γ1 => (evalArgs as Γ1).bind fun vs Γ2 => .ok (v :: vs) Γ2
def AV.get : AV → Env → Option PyData
  | .d z, _ => some z
  | .s i, Γ => (slotD i Γ).map SV.toD
def getAll : List AV → Env → Option (List PyData)
  | [], _ => some []
  | a :: as, Γ => (a.get Γ).bind fun d => (getAll as Γ).bind fun ds => some (d :: ds)
def toTEa (B : Bx) : ArgF → TE
  | .e f => toTE B f
  | .s i => tVar i
def toTAa (B : Bx) : List ArgF → TA
  | [] => tNil
  | a :: as => tCons (toTEa B a) (toTAa B as)
def RepAV (B : Bx) (s : Sx) : AV → V → Prop
  | .d d, v => Rep B.K s.F d v
  | .s i, v => s.σ[i]? = some (some v)
def RepAVs (B : Bx) (s : Sx) : List AV → List V → Prop
  | [], vs => vs = []
  | a :: as, vs => ∃ v r, vs = v :: r ∧ RepAV B s a v ∧ RepAVs B s as r
section
variable {B : Bx} {F H : Hp} {σ : L2.St} {Γ Γ' : Env}
theorem RepAV.step {s s' : Sx} (st : Step s s') (e : s'.σ = s.σ) : ∀ {a : AV} {v : V}, RepAV B s a v → RepAV B s' a v
  | .d d, v, h => Rep.same (K := B.K) st.same h
  | .s i, v, h => by
    show s'.σ[i]? = _
    rw [e]
    exact h
theorem RepAVs.step {s s' : Sx} (st : Step s s') (e : s'.σ = s.σ) : ∀ {a : List AV} {v : List V}, RepAVs B s a v → RepAVs B s' a v
  | [], v, h => h
  | a :: as, v, h => by
    obtain ⟨x, r, rfl, h1, h2⟩ := h
    exact ⟨x, r, rfl, RepAV.step st e h1, RepAVs.step st e h2⟩
theorem arg_run {a : ArgF} {av : AV} {Q : VK} (k : Ok B ⟨F, H, σ, Γ⟩) (e : evalArg a Γ = .ok av Γ')
    (h : ∀ v F' H', Ok B ⟨F', H', σ, Γ'⟩ → Step ⟨F, H, σ, Γ⟩ ⟨F', H', σ, Γ'⟩ → RepAV B ⟨F', H', σ, Γ'⟩ av v → Q v H') : toTEa B a σ H Q := by
  cases a with
  | e f =>
    obtain ⟨r, Γ1, ef, e2⟩ := Res.of_bind (show (f Γ).bind _ = _ from e)
    cases e2
    exact toTE_fro k ef h
  | s i =>
    obtain ⟨sv, Γ1, ef, e2⟩ := Res.of_bind (show (ofOpt (slotD i Γ) Γ).bind _ = _ from e)
    cases e2
    obtain ⟨es, rfl⟩ := of_ofOpt ef
    have ei := of_slotD es
    have hv : ∃ v, σ[i]? = some (some v) := by
      cases sv with
      | fro d =>
        obtain ⟨v, h1, _⟩ := k.fro i d ei
        exact ⟨v, h1⟩
      | own t c =>
        obtain ⟨p, h1, _⟩ := k.own i t c ei
        exact ⟨_, h1⟩
    obtain ⟨v, hv⟩ := hv
    exact ⟨v, hv, h v F H k (Step.refl _) hv⟩
theorem args_run : ∀ {as : List ArgF} {F H : Hp} {Γ Γ' : Env} {avs : List AV} {Q : List V → Hp → Prop}, Ok B ⟨F, H, σ, Γ⟩ → evalArgs as Γ = .ok avs Γ' →
    (∀ vs F' H', Ok B ⟨F', H', σ, Γ'⟩ → Step ⟨F, H, σ, Γ⟩ ⟨F', H', σ, Γ'⟩ → RepAVs B ⟨F', H', σ, Γ'⟩ avs vs → Q vs H') → toTAa B as σ H Q
  | [], F, H, Γ, Γ', avs, Q, k, e, h => by
    cases e
    exact h [] F H k (Step.refl _) rfl
  | a :: as, F, H, Γ, Γ', avs, Q, k, e, h => by
    obtain ⟨v1, Γ1, e1, e⟩ := Res.of_bind (show (evalArg a Γ).bind _ = _ from e)
    obtain ⟨vs2, Γ2, e2, e⟩ := Res.of_bind e
    cases e
    refine arg_run k e1 fun v F1 H1 k1 st1 r1 => ?_
    refine args_run k1 e2 fun vs F2 H2 k2 st2 r2 => ?_
    exact h (v :: vs) F2 H2 k2 (st1.trans st2) ⟨v, vs, rfl, RepAV.step st2 rfl r1, r2⟩
theorem RepAV.get {s : Sx} (k : Ok B s) : ∀ {a : AV} {v : V} {d : PyData}, RepAV B s a v → a.get s.Γ = some d → RepB B.K s.F s.H d v
  | .d z, v, x, h, e => by
    cases e
    exact .inl h
  | .s i, v, x, h, e => by
    obtain ⟨sv, es, rfl⟩ := Option.map_eq_some_iff.mp (show (slotD i s.Γ).map SV.toD = _ from e)
    have ei := of_slotD es
    have h' : s.σ[i]? = some (some v) := h
    cases sv with
    | fro d =>
      obtain ⟨w, h1, h2⟩ := k.fro i d ei
      rw [h1] at h'
      cases h'
      exact .inl h2
    | own t c =>
      obtain ⟨p, h1, h2, h3, _⟩ := k.own i t c ei
      rw [h1] at h'
      cases h'
      exact .inr ⟨p, c, rfl, rfl, h3, h2⟩
theorem RepAVs.get {s : Sx} (k : Ok B s) : ∀ {a : List AV} {v : List V} {d : List PyData}, RepAVs B s a v → getAll a s.Γ = some d → RepBs B.K s.F s.H d v
  | [], v, d, h, e => by
    cases e
    exact h
  | a :: as, v, d, h, e => by
    obtain ⟨x, r, rfl, h1, h2⟩ := h
    obtain ⟨d1, e1, e⟩ := Option.bind_eq_some_iff.mp (show (a.get s.Γ).bind _ = _ from e)
    obtain ⟨ds, e2, e⟩ := Option.bind_eq_some_iff.mp e
    cases e
    exact ⟨x, r, rfl, RepAV.get k h1 e1, RepAVs.get k h2 e2⟩
end

/-! ### an operation by data as an expression -/
def opF (op : List PyData → Option RV) (as : List ArgF) : EF := fun Γ => (evalArgs as Γ).bind fun avs Γ' => (ofOpt (getAll avs Γ') Γ').bind fun ds Γ' => ofOpt (op ds) Γ'
theorem RVg.ok {B : Bx} {F H F' H' : Hp} {σ : L2.St} {Γ : Env} {v : V} {r : RV} (k : Ok B ⟨F, H, σ, Γ⟩) {s0 : Sx} (st : Step s0 ⟨F, H, σ, Γ⟩) (h : RVg B.K F' H' H v r) : RVok B s0 ⟨F', H', σ, Γ⟩ v r := by
  cases r with
  | fro d => exact h
  | nw c =>
    obtain ⟨p, rfl, h2, h3, h4⟩ := h
    refine ⟨p, rfl, h2, h3, st.none_back h4, ?_⟩
    rintro ⟨i, t, c', e1, e2⟩
    obtain ⟨q, q1, _, q3, _⟩ := k.own i t c' e1
    have q1' : σ[i]? = some (some (.ref q)) := q1
    rw [q1'] at e2
    cases e2
    obtain ⟨o, ho, _⟩ := q3.there
    have ho' : H p = some o := ho
    rw [h4] at ho'
    cases ho'
theorem opF_te {B : Bx} {op : List PyData → Option RV} {as : List ArgF} {σ : L2.St} {H : Hp} {Q : VK} (h : toTE B (opF op as) σ H Q) : tCB (rD B.K op) (toTAa B as) σ H Q := by
  obtain ⟨F, Γ, r, Γ', k, e, q⟩ := toTE_ok h
  obtain ⟨avs, Γ1, e1, f1⟩ := Res.of_bind e
  obtain ⟨ds, Γ2, e2, f2⟩ := Res.of_bind f1
  obtain ⟨e2, rfl⟩ := of_ofOpt e2
  obtain ⟨e3, rfl⟩ := of_ofOpt f2
  refine args_run k e1 fun vs F1 H1 k1 st1 r1 => ?_
  refine ⟨F1, ds, r, k1.ext, RepAVs.get k1 r1 e2, e3, fun v F2 H2 g rv => ?_⟩
  obtain ⟨k2, st2⟩ := k1.grow g
  exact q v F2 H2 k2 (st1.trans st2) (rv.ok k1 st1)

theorem PE.imp {X : Cx} {e : Expr} {t t' : TE} (h : PE X e t) (i : ∀ σ H Q, t' σ H Q → t σ H Q) : PE X e t' := ⟨fun pins s σ H Q I q => h.run pins s σ H Q I (i σ H Q q)⟩
theorem PT.imp {X : Cx} {e : Expr} {t t' : TT} (h : PT X e t) (i : ∀ σ H Q, t' σ H Q → t σ H Q) : PT X e t' := ⟨fun pins s σ H Q I q => h.run pins s σ H Q I (i σ H Q q)⟩
theorem PS.imp {X : Cx} {e : Stmt} {t t' : TS} (h : PS X e t) (i : ∀ D σ H, t' D σ H → t D σ H) : PS X e t' := ⟨fun pins s σ H D I q => h.run pins s σ H D I (i D σ H q)⟩
theorem PSs.imp {X : Cx} {e : List Stmt} {t t' : TS} (h : PSs X e t) (i : ∀ D σ H, t' D σ H → t D σ H) : PSs X e t' := ⟨fun pins s σ H D I q => h.run pins s σ H D I (i D σ H q)⟩
theorem PE.or {X : Cx} {e : Expr} {t t' : TE} (h : PE X e t) (h' : PE X e t') : PE X e (fun σ H Q => t σ H Q ∨ t' σ H Q) := ⟨fun pins s σ H Q I q => q.elim (h.run pins s σ H Q I) (h'.run pins s σ H Q I)⟩
theorem PS.or {X : Cx} {e : Stmt} {t t' : TS} (h : PS X e t) (h' : PS X e t') : PS X e (fun D σ H => t D σ H ∨ t' D σ H) := ⟨fun pins s σ H D I q => q.elim (h.run pins s σ H D I) (h'.run pins s σ H D I)⟩

/-- an expression, an argument, arguments by their functions -/
abbrev EE (B : Bx) (X : Cx) (e : Expr) (f : EF) : Prop := PE X e (toTE B f)
abbrev EA (B : Bx) (X : Cx) (e : Expr) (a : ArgF) : Prop := PE X e (toTEa B a)
abbrev EAs (B : Bx) (X : Cx) (es : List Expr) (as : List ArgF) : Prop := PA X es (toTAa B as)
section
variable {B : Bx} {X : Cx}
theorem ea_e {e : Expr} {f : EF} (h : EE B X e f) : EA B X e (.e f) := h
theorem ea_s (i : Nat) {x : Str} {pos : Pos} (hN : X.N[i]? = some x := by rfl) (hv : Vis X.env.scope x := by first | exact Or.inl rfl | exact Or.inr (Or.inl rfl) | exact Or.inr (Or.inr rfl)) (hd : (x == ("__debug__" : Str)) = false := by decide)
    (hcd : (x == ("__classdict__" : Str)) = false := by decide) : EA B X (.Name x pos) (.s i) := pe_var hN hv hd hcd
theorem eas_nil : EAs B X [] [] := pa_nil
theorem eas_cons {e : Expr} {es : List Expr} {a : ArgF} {as : List ArgF} (h : EA B X e a) (hr : EAs B X es as) (hs : starEach (e :: es) X.env = (false, eval e X.env) :: starEach es X.env := by rfl) : EAs B X (e :: es) (a :: as) := pa_cons h hr hs

/-! ### names -/
def varF (i : Nat) : EF := fun Γ => (ofOpt (slotD i Γ) Γ).bind fun sv Γ => match sv with
  | .fro d => .ok (.fro d) Γ
  | .own _ c => .ok (.fro c.toD) (Γ.set i (some (.fro c.toD)))
theorem freeze_slot {F H : Hp} {σ : L2.St} {Γ : Env} {i : Nat} {t : Option Nat} {c : Own} (k : Ok B ⟨F, H, σ, Γ⟩) (e : Γ[i]? = some (some (.own t c))) :
    ∃ F' p, σ[i]? = some (some (.ref p)) ∧ Ok B ⟨F', H, σ, Γ.set i (some (.fro c.toD))⟩ ∧ Step ⟨F, H, σ, Γ⟩ ⟨F', H, σ, Γ.set i (some (.fro c.toD))⟩ ∧ Rep B.K F' c.toD (.ref p) := by
  obtain ⟨p, h1, h2, h3, h4⟩ := k.own i t c e
  obtain ⟨F', a1, a2, a3, a4⟩ := h3.freeze k.ext h2
  have hi : i < Γ.length := (List.getElem?_eq_some_iff.mp e).1
  have cas : ∀ (j : Nat) sv, (Γ.set i (some (.fro c.toD)))[j]? = some (some sv) → (j = i ∧ sv = .fro c.toD) ∨ (j ≠ i ∧ Γ[j]? = some (some sv)) := fun j sv q => by
    by_cases hj : j = i
    · subst hj
      rw [List.getElem?_set_self hi] at q
      cases q
      exact .inl ⟨rfl, rfl⟩
    · rw [List.getElem?_set_ne (Ne.symm hj)] at q
      exact .inr ⟨hj, q⟩
  refine ⟨F', p, h1, ⟨a2, by rw [List.length_set]; exact k.len, fun j d q => ?_, fun j t' c' q => ?_, fun j1 j2 t1 t2 c1 c2 q e1 e2 => ?_, k.dom⟩, ⟨a1, fun _ _ h _ => h, fun _ o h => ⟨o, h⟩, fun q hq => ?_, fun q o hq => ?_⟩, a3⟩
  · rcases cas j _ q with ⟨rfl, e'⟩ | ⟨_, q⟩
    · cases e'
      exact ⟨_, h1, a3⟩
    · obtain ⟨w, q1, q2⟩ := k.fro j d q
      exact ⟨w, q1, q2.same a1⟩
  · rcases cas j _ q with ⟨rfl, e'⟩ | ⟨hj, q⟩
    · cases e'
    · obtain ⟨q0, q1, q2, q3, q4⟩ := k.own j t' c' q
      refine ⟨q0, q1, ?_, q3.keep a1 fun _ z => z, q4⟩
      have hq : q0 ≠ p := fun z => hj (k.dis j i t' t c' c p q e (by rw [← z]; exact q1) h1)
      show F' q0 = none
      rw [a4 q0 hq]
      exact q2
  · rcases cas j1 _ e1 with ⟨_, e'⟩ | ⟨_, e1⟩
    · cases e'
    · rcases cas j2 _ e2 with ⟨_, e'⟩ | ⟨_, e2⟩
      · cases e'
      · exact k.dis j1 j2 t1 t2 c1 c2 q e1 e2
  · obtain ⟨j, t', c', e1, e2⟩ := hq
    rcases cas j _ e1 with ⟨_, e'⟩ | ⟨_, e1⟩
    · cases e'
    · exact .inl ⟨j, t', c', e1, e2⟩
  · by_cases hqp : q = p
    · exact .inr (.inl ⟨i, t, c, e, by rw [hqp]; exact h1⟩)
    · have hq' : F' q = some o := hq
      rw [a4 q hqp] at hq'
      exact .inl hq'
theorem varF_te {i : Nat} {σ : L2.St} {H : Hp} {Q : VK} (h : toTE B (varF i) σ H Q) : tVar i σ H Q := by
  obtain ⟨F, Γ, r, Γ', k, e, q⟩ := toTE_ok h
  obtain ⟨sv, Γ1, es, e⟩ := Res.of_bind e
  obtain ⟨es, rfl⟩ := of_ofOpt es
  have ei := of_slotD es
  cases sv with
  | fro d =>
    cases e
    obtain ⟨v, h1, h2⟩ := k.fro i d ei
    exact ⟨v, h1, q v F H k (Step.refl _) h2⟩
  | own t c =>
    cases e
    obtain ⟨F', p, h1, h2, h3, h4⟩ := freeze_slot k ei
    exact ⟨_, h1, q _ F' H h2 h3 h4⟩
theorem ee_var (i : Nat) {x : Str} {pos : Pos} (hN : X.N[i]? = some x := by rfl) (hv : Vis X.env.scope x := by first | exact Or.inl rfl | exact Or.inr (Or.inl rfl) | exact Or.inr (Or.inr rfl)) (hd : (x == ("__debug__" : Str)) = false := by decide)
    (hcd : (x == ("__classdict__" : Str)) = false := by decide) : EE B X (.Name x pos) (varF i) := PE.imp (pe_var hN hv hd hcd) fun _ _ _ h => varF_te h

/-! ### constants -/
def cF (d : PyData) : EF := fun Γ => .ok (.fro d) Γ
theorem cF_te {d : PyData} {v : V} (hv : ∀ F, Rep B.K F d v) {σ : L2.St} {H : Hp} {Q : VK} (h : toTE B (cF d) σ H Q) : tC v σ H Q := by
  obtain ⟨F, Γ, r, Γ', k, e, q⟩ := toTE_ok h
  cases e
  exact q v F H k (Step.refl _) (hv F)
theorem ee_int {i j pos} : EE B X (.Constant (.int i) j pos) (cF (.int i)) := PE.imp pe_int fun _ _ _ h => cF_te (d := .int i) (v := .int i) (fun _ => by unfold Rep; rfl) h
theorem ee_bl {b j pos} : EE B X (.Constant (.bool b) j pos) (cF (.bool b)) := PE.imp pe_bl fun _ _ _ h => cF_te (d := .bool b) (v := .bl b) (fun _ => by unfold Rep; rfl) h
theorem ee_non {j pos} : EE B X (.Constant .none j pos) (cF .none) := PE.imp pe_non fun _ _ _ h => cF_te (d := .none) (v := .non) (fun _ => by unfold Rep; rfl) h
theorem ee_str {x j pos} : EE B X (.Constant (.str x) j pos) (cF (.str x)) := PE.imp pe_str fun _ _ _ h => cF_te (d := .str x) (v := .str x) (fun _ => by unfold Rep; rfl) h
/-- a module's constant that is a number, a text .. -/
theorem ee_glob {x : Str} {d : PyData} {v : V} {u : Value} {pos : Pos} (hg : Gl X x) (hm : X.mg x = some u) (r : RelV v u) (hv : ∀ F, Rep B.K F d v) (hd : (x == ("__debug__" : Str)) = false := by decide) : EE B X (.Name x pos) (cF d) :=
  PE.imp (pe_glob hg hm r hd) fun _ _ _ h => cF_te hv h

/-! ### operations and built-in functions by data -/
theorem ee_op {op : Operator} {o : List PyData → Option RV} {a b : Expr} {fa fb : ArgF} {pos : Pos} (hK : X.K = B.K) (ho : OpR X (binaryOp op) (rD2 X.K o)) (ha : EA B X a fa) (hb : EA B X b fb) : EE B X (.BinOp a op b pos) (opF o [fa, fb]) :=
  PE.imp (pe_op ho ha hb) fun _ _ _ h => by
    rw [hK]
    exact opF_te h
theorem ee_un {op : UnaryOp} {o : List PyData → Option RV} {a : Expr} {fa : ArgF} {pos : Pos} (hK : X.K = B.K) (ho : UnR X (unaryOp op) (rD1 X.K o)) (ha : EA B X a fa) : EE B X (.UnaryOp op a pos) (opF o [fa]) :=
  PE.imp (pe_un ho ha) fun _ _ _ h => by
    rw [hK]
    exact opF_te h
theorem ee_cmp {op : CmpOp} {o : List PyData → Option RV} {a b : Expr} {fa fb : ArgF} {pos : Pos} (hK : X.K = B.K) (ho : OpR X (compareOp op) (rD2 X.K o)) (ha : EA B X a fa) (hb : EA B X b fb) (hm : behindInMarks op b = false := by first | exact nomark _ | rfl) :
    EE B X (.Compare a [op] [b] pos) (opF o [fa, fb]) := PE.imp (pe_cmpR ho ha hb hm) fun _ _ _ h => by
    rw [hK]
    exact opF_te h
theorem ee_ix {o : List PyData → Option RV} {a b : Expr} {fa fb : ArgF} {pos : Pos} (hK : X.K = B.K) (ho : IxR X (rD2 X.K o)) (ha : EA B X a fa) (hb : EA B X b fb) (hs : PlainIx b := by exact fun _ _ => rfl) : EE B X (.Subscript a b pos) (opF o [fa, fb]) :=
  PE.imp (pe_ix ho ha hb hs) fun _ _ _ h => by
    rw [hK]
    exact opF_te h
theorem ee_callB {id : String} {x : Str} {p pos : Pos} {e : Expr} {es : List Expr} {o : List PyData → Option RV} {as : List ArgF} (hK : X.K = B.K) (hc : CallR X (.builtin id) (rD X.K o)) (hg : Gl X x) (hm : X.mg x = none) (hv : bootBuiltins x = some (.builtin id)) (ha : EAs B X (e :: es) as)
    (hn : x ≠ "__name__" := by decide) (hdb : (x == ("__debug__" : Str)) = false := by decide)
    (he : starEach (e :: es) X.env = (false, eval e X.env) :: starEach es X.env := by rfl) (hpl : (backTo pos (starEach es X.env)).any (·.1) = false := by rfl) : EE B X (.Call (.Name x p) (e :: es) [] pos) (opF o as) :=
  PE.imp (pe_callB hc hg hm hv ha hn hdb he hpl) fun _ _ _ h => by
    rw [hK]
    exact opF_te h
theorem ee_callTy {T : String} {x : Str} {p pos : Pos} {e : Expr} {es : List Expr} {o : List PyData → Option RV} {as : List ArgF} (hK : X.K = B.K) (hc : CallR X (.type T) (rD X.K o)) (hg : Gl X x) (hm : X.mg x = none) (hv : bootBuiltins x = some (.type T)) (ha : EAs B X (e :: es) as)
    (hn : x ≠ "__name__" := by decide) (hdb : (x == ("__debug__" : Str)) = false := by decide)
    (he : starEach (e :: es) X.env = (false, eval e X.env) :: starEach es X.env := by rfl) (hpl : (backTo pos (starEach es X.env)).any (·.1) = false := by rfl) : EE B X (.Call (.Name x p) (e :: es) [] pos) (opF o as) :=
  PE.imp (pe_callTy hc hg hm hv ha hn hdb he hpl) fun _ _ _ h => by
    rw [hK]
    exact opF_te h
end
end PD
end

section
set_option maxHeartbeats 4000000
/-! PD3: the operations by data. -/
namespace PD
open PySem PySem.Spec PyProof.Rows L2

section
variable {K : PySem.W.Frag} {F H : Hp}
@[simp] theorem rvg_int {H' : Hp} (i : Int) : RVg K F H' H (.int i) (.fro (.int i)) := by show Rep K F (.int i) (.int i); unfold Rep; rfl
@[simp] theorem rvg_bl {H' : Hp} (i : Bool) : RVg K F H' H (.bl i) (.fro (.bool i)) := by show Rep K F (.bool i) (.bl i); unfold Rep; rfl
@[simp] theorem rvg_str {H' : Hp} (i : Str) : RVg K F H' H (.str i) (.fro (.str i)) := by show Rep K F (.str i) (.str i); unfold Rep; rfl
@[simp] theorem rvg_non {H' : Hp} : RVg K F H' H .non (.fro .none) := by show Rep K F .none .non; unfold Rep; rfl
end

section
variable {X : Cx}
theorem ints_two {K : PySem.W.Frag} {F H : Hp} {a b : Int} {x y : V} (h : RepBs K F H [.int a, .int b] [x, y]) : x = .int a ∧ y = .int b := by
  obtain ⟨x', y', e, h1, h2⟩ := h.two
  cases e
  exact ⟨h1.int, h2.int⟩

/-! ### + - * // % ** -/
def opAdd : List PyData → Option RV
  | [.int a, .int b] => some (.fro (.int (a + b)))
  | [.str a, .str b] => if a.length + b.length ≤ 1000000 then some (.fro (.str (a ++ b))) else none
  | [.list a, .list b] => if a.length + b.length ≤ 1000000 then some (.nw (.lst (a ++ b))) else none
  | _ => none
theorem or_add : OpR X (binaryOp .Add) (rD2 X.K opAdd) := by
  intro pins s σ H x y v u Q I rx ry h
  obtain ⟨F, ds, rv, e, rb, eo, q⟩ := h
  unfold opAdd at eo
  split at eo
  · obtain ⟨rfl, rfl⟩ := ints_two rb
    cases eo
    exact op_add pins s σ H _ _ v u Q I rx ry ⟨_, _, rfl, rfl, q _ F H (Grow.refl e) (rvg_int _)⟩
  · rename_i a b
    split at eo
    · rename_i hz
      obtain ⟨x', y', ee, h1, h2⟩ := rb.two
      cases ee
      obtain rfl := h1.str
      obtain rfl := h2.str
      cases eo
      exact op_add_str pins s σ H _ _ v u Q I rx ry ⟨_, _, rfl, rfl, by rw [sizeLine_eq]; omega, q _ F H (Grow.refl e) (rvg_str _)⟩
    · cases eo
  · rename_i a b
    split at eo
    · rename_i hz
      obtain ⟨x', y', ee, h1, h2⟩ := rb.two
      cases ee
      obtain ⟨p1, vs1, rfl, s1, r1⟩ := h1.list e
      obtain ⟨p2, vs2, rfl, s2, r2⟩ := h2.list e
      cases eo
      cases rx
      cases ry
      obtain ⟨its, rv1, ⟨⟨cls, dd, data, sl⟩, n, ho, hc, hd0, hd⟩, z1⟩ := I.list s1
      obtain ⟨its2, rv2, ⟨⟨cls2, dd2, data2, sl2⟩, n2, ho2, hc2, hd02, hd2⟩, z2⟩ := I.list s2
      simp only at hc hd hc2 hd2
      subst hc hd hc2 hd2
      have l1 := rv1.length
      have l2 := rv2.length
      have l3 := r1.length
      have l4 := r2.length
      have hsz : its.toArray.size + its2.toArray.size ≤ sizeLine := by
        rw [List.size_toArray, List.size_toArray, sizeLine_eq]
        omega
      refine concat_meets ⟨_, ho, rfl⟩ ⟨_, ho2, rfl⟩ noFill_list_add seq_list_add PySem.F.slot_list_add PySem.F.entry_list_add (PySem.F.args_list_add_2 _ _) (list_addW p1 p2 its.toArray its2.toArray n n2 dd dd2 sl sl2 hsz) ⟨ho, ho2, ?_⟩
      have ea : its.toArray ++ its2.toArray = (its ++ its2).toArray := by simp
      rw [ea]
      exact ⟨.ref _, _, I.lnew (t' := s.toks) (rv1.append rv2) (by rw [List.length_append, sizeLine_eq]; omega), rfl,
        q _ F _ (Grow.new e (.lst (vs1 ++ vs2)) I.fresh) ⟨_, rfl, e.none I.fresh, ⟨_, upd_same, r1.append r2⟩, I.fresh⟩⟩
    · cases eo
  · cases eo
def opSub : List PyData → Option RV
  | [.int a, .int b] => some (.fro (.int (a - b)))
  | _ => none
theorem or_sub : OpR X (binaryOp .Sub) (rD2 X.K opSub) := by
  intro pins s σ H x y v u Q I rx ry h
  obtain ⟨F, ds, rv, e, rb, eo, q⟩ := h
  unfold opSub at eo
  split at eo
  · obtain ⟨rfl, rfl⟩ := ints_two rb
    cases eo
    exact op_sub pins s σ H _ _ v u Q I rx ry ⟨_, _, rfl, rfl, q _ F H (Grow.refl e) (rvg_int _)⟩
  · cases eo
/-- a bound on the factors that both small and great numbers meet -/
def mulOk (a b : Int) : Bool := decide (a.natAbs.log2 + b.natAbs.log2 < 1000000) || decide (a.natAbs < 2 ^ 64) || decide (b.natAbs < 2 ^ 64)
def opMul : List PyData → Option RV
  | [.int a, .int b] => if mulOk a b = true then some (.fro (.int (a * b))) else none
  | _ => none
theorem or_mul : OpR X (binaryOp .Mult) (rD2 X.K opMul) := by
  intro pins s σ H x y v u Q I rx ry h
  obtain ⟨F, ds, rv, e, rb, eo, q⟩ := h
  unfold opMul at eo
  split at eo
  · obtain ⟨rfl, rfl⟩ := ints_two rb
    rename_i a b
    split at eo
    · rename_i hm
      cases eo
      unfold mulOk at hm
      rw [Bool.or_eq_true, Bool.or_eq_true] at hm
      rcases hm with (hm | hm) | hm
      · have hm' : a.natAbs.log2 + b.natAbs.log2 < 1000000 := of_decide_eq_true hm
        exact op_mulW pins s σ H _ _ v u Q I rx ry ⟨_, _, rfl, rfl, hm', q _ F H (Grow.refl e) (rvg_int _)⟩
      · have hm' := of_decide_eq_true hm
        exact op_mul pins s σ H _ _ v u Q I rx ry ⟨_, _, rfl, rfl, .inl ⟨by omega, by omega⟩, q _ F H (Grow.refl e) (rvg_int _)⟩
      · have hm' := of_decide_eq_true hm
        exact op_mul pins s σ H _ _ v u Q I rx ry ⟨_, _, rfl, rfl, .inr ⟨by omega, by omega⟩, q _ F H (Grow.refl e) (rvg_int _)⟩
    · cases eo
  · cases eo
def opFdiv : List PyData → Option RV
  | [.int a, .int b] => if 0 < b ∧ b.natAbs.log2 < 9000 then some (.fro (.int (a / b))) else none
  | _ => none
theorem or_fdiv : OpR X (binaryOp .FloorDiv) (rD2 X.K opFdiv) := by
  intro pins s σ H x y v u Q I rx ry h
  obtain ⟨F, ds, rv, e, rb, eo, q⟩ := h
  unfold opFdiv at eo
  split at eo
  · obtain ⟨rfl, rfl⟩ := ints_two rb
    split at eo
    · rename_i hm
      cases eo
      exact op_fdivW pins s σ H _ _ v u Q I rx ry ⟨_, _, rfl, rfl, hm, q _ F H (Grow.refl e) (rvg_int _)⟩
    · cases eo
  · cases eo
def opMod : List PyData → Option RV
  | [.int a, .int b] => if 0 < b then some (.fro (.int (a % b))) else none
  | _ => none
theorem or_mod : OpR X (binaryOp .Mod) (rD2 X.K opMod) := by
  intro pins s σ H x y v u Q I rx ry h
  obtain ⟨F, ds, rv, e, rb, eo, q⟩ := h
  unfold opMod at eo
  split at eo
  · obtain ⟨rfl, rfl⟩ := ints_two rb
    split at eo
    · rename_i hm
      cases eo
      exact op_mod pins s σ H _ _ v u Q I rx ry ⟨_, _, rfl, rfl, hm, q _ F H (Grow.refl e) (rvg_int _)⟩
    · cases eo
  · cases eo
def opNeg : List PyData → Option RV
  | [.int a] => some (.fro (.int (-a)))
  | _ => none
theorem or_neg : UnR X (unaryOp .USub) (rD1 X.K opNeg) := by
  intro pins s σ H x v Q I rx h
  obtain ⟨F, ds, rv, e, rb, eo, q⟩ := h
  unfold opNeg at eo
  split at eo
  · obtain ⟨x', ee, h1⟩ := rb.one
    cases ee
    obtain rfl := h1.int
    cases eo
    exact un_neg pins s σ H _ v Q I rx ⟨_, rfl, q _ F H (Grow.refl e) (rvg_int _)⟩
  · cases eo

/-! ### comparisons of numbers -/
def opLt : List PyData → Option RV
  | [.int a, .int b] => some (.fro (.bool (decide (a < b))))
  | _ => none
theorem or_lt : OpR X (compareOp .Lt) (rD2 X.K opLt) := by
  intro pins s σ H x y v u Q I rx ry h
  obtain ⟨F, ds, rv, e, rb, eo, q⟩ := h
  unfold opLt at eo
  split at eo
  · obtain ⟨rfl, rfl⟩ := ints_two rb
    cases eo
    exact op_lt pins s σ H _ _ v u Q I rx ry ⟨_, _, rfl, rfl, q _ F H (Grow.refl e) (rvg_bl _)⟩
  · cases eo
def opLe : List PyData → Option RV
  | [.int a, .int b] => some (.fro (.bool (decide (a ≤ b))))
  | _ => none
theorem or_le : OpR X (compareOp .LtE) (rD2 X.K opLe) := by
  intro pins s σ H x y v u Q I rx ry h
  obtain ⟨F, ds, rv, e, rb, eo, q⟩ := h
  unfold opLe at eo
  split at eo
  · obtain ⟨rfl, rfl⟩ := ints_two rb
    cases eo
    exact op_le pins s σ H _ _ v u Q I rx ry ⟨_, _, rfl, rfl, q _ F H (Grow.refl e) (rvg_bl _)⟩
  · cases eo
def opGt : List PyData → Option RV
  | [.int a, .int b] => some (.fro (.bool (decide (b < a))))
  | _ => none
theorem or_gt : OpR X (compareOp .Gt) (rD2 X.K opGt) := by
  intro pins s σ H x y v u Q I rx ry h
  obtain ⟨F, ds, rv, e, rb, eo, q⟩ := h
  unfold opGt at eo
  split at eo
  · obtain ⟨rfl, rfl⟩ := ints_two rb
    cases eo
    exact op_gt pins s σ H _ _ v u Q I rx ry ⟨_, _, rfl, rfl, q _ F H (Grow.refl e) (rvg_bl _)⟩
  · cases eo
def opGe : List PyData → Option RV
  | [.int a, .int b] => some (.fro (.bool (decide (b ≤ a))))
  | _ => none
theorem or_ge : OpR X (compareOp .GtE) (rD2 X.K opGe) := by
  intro pins s σ H x y v u Q I rx ry h
  obtain ⟨F, ds, rv, e, rb, eo, q⟩ := h
  unfold opGe at eo
  split at eo
  · obtain ⟨rfl, rfl⟩ := ints_two rb
    cases eo
    exact op_ge pins s σ H _ _ v u Q I rx ry ⟨_, _, rfl, rfl, q _ F H (Grow.refl e) (rvg_bl _)⟩
  · cases eo

/-! ### data without dicts: what the library reads -/
section
variable {F H : Hp} {K : PySem.W.Frag}
def noDict : PyData → Bool := fun d => SeqAt.shaped d
mutual
theorem Rep.dp : ∀ (d : PyData) (v : V), d.hasDict = false → Rep K H d v → Dp K H v d
  | .none, v, _, h => by
    have h' : v = .non := by unfold Rep at h; exact h
    subst h'
    exact Dp.non
  | .bool b, v, _, h => by
    have h' : v = .bl b := by unfold Rep at h; exact h
    subst h'
    exact Dp.bl b
  | .int b, v, _, h => by
    have h' : v = .int b := by unfold Rep at h; exact h
    subst h'
    exact Dp.int b
  | .str b, v, _, h => by
    have h' : v = .str b := by unfold Rep at h; exact h
    subst h'
    exact Dp.str b
  | .list xs, v, n, h => by
    obtain ⟨a, vs, rfl, h1, h2⟩ := h
    exact Dp.lst h1.sq (RepL.dp xs vs (by simpa [PyData.hasDict] using n) h2)
  | .tuple xs, v, n, h => by
    obtain ⟨a, vs, rfl, h1, h2⟩ := h
    exact Dp.tup h1.sq (RepL.dp xs vs (by simpa [PyData.hasDict] using n) h2)
  | .dict kvs, v, n, h => by simp [PyData.hasDict] at n
theorem RepL.dp : ∀ (ds : List PyData) (vs : List V), PyData.hasDictAll ds = false → RepL K H ds vs → DpAll K H vs ds
  | [], vs, _, h => by
    have h' : vs = [] := by unfold RepL at h; exact h
    subst h'
    exact DpAll.nil
  | d :: ds, vs, n, h => by
    obtain ⟨v, r, rfl, h1, h2⟩ := h
    have n' : d.hasDict = false ∧ PyData.hasDictAll ds = false := by simpa [PyData.hasDictAll] using n
    exact DpAll.cons (Rep.dp d v n'.1 h1) (RepL.dp ds r n'.2 h2)
end
end
/-! ### == and != (data without dicts), is -/
def opEq : List PyData → Option RV
  | [a, b] => if SeqAt.shaped a = true ∧ SeqAt.shaped b = true then some (.fro (.bool (PyData.eqv a b))) else none
  | _ => none
def opNe : List PyData → Option RV
  | [a, b] => if SeqAt.shaped a = true ∧ SeqAt.shaped b = true then some (.fro (.bool (!PyData.eqv a b))) else none
  | _ => none
theorem or_eq (hu : X.A.units + 64 < cLine) : OpR X (compareOp .Eq) (rD2 X.K opEq) := by
  intro pins s σ H x y v u Q I rx ry h
  obtain ⟨F, ds, rv, e, rb, eo, q⟩ := h
  unfold opEq at eo
  split at eo
  · split at eo
    · rename_i hc
      obtain ⟨x', y', ee, h1, h2⟩ := rb.two
      cases ee
      cases eo
      obtain ⟨s1, s2⟩ := hc
      have hd : _ ∧ _ := ⟨PyData.hasDict_of_canLay _ (SeqAt.canLay_of_shaped s1), PyData.hasDict_of_canLay _ (SeqAt.canLay_of_shaped s2)⟩
      exact op_eqD hu pins s σ H _ _ v u Q I rx ry ⟨_, _, Rep.dp _ _ hd.1 (h1.rep e), Rep.dp _ _ hd.2 (h2.rep e), s1, s2, q _ F H (Grow.refl e) (rvg_bl _)⟩
    · cases eo
  · cases eo
theorem or_ne (hu : X.A.units + 64 < cLine) : OpR X (compareOp .NotEq) (rD2 X.K opNe) := by
  intro pins s σ H x y v u Q I rx ry h
  obtain ⟨F, ds, rv, e, rb, eo, q⟩ := h
  unfold opNe at eo
  split at eo
  · split at eo
    · rename_i hc
      obtain ⟨x', y', ee, h1, h2⟩ := rb.two
      cases ee
      cases eo
      obtain ⟨s1, s2⟩ := hc
      have hd : _ ∧ _ := ⟨PyData.hasDict_of_canLay _ (SeqAt.canLay_of_shaped s1), PyData.hasDict_of_canLay _ (SeqAt.canLay_of_shaped s2)⟩
      exact op_neD hu pins s σ H _ _ v u Q I rx ry ⟨_, _, Rep.dp _ _ hd.1 (h1.rep e), Rep.dp _ _ hd.2 (h2.rep e), s1, s2, q _ F H (Grow.refl e) (rvg_bl _)⟩
    · cases eo
  · cases eo
def isNone : PyData → Bool
  | .none => true
  | _ => false
theorem Rep.isNone {K : PySem.W.Frag} {F : Hp} : ∀ {d : PyData} {v : V}, Rep K F d v → decide (v = .non) = isNone d
  | .none, v, h => by
    have h' : v = .non := by unfold Rep at h; exact h
    rw [h']
    rfl
  | .bool b, v, h => by
    have h' : v = .bl b := by unfold Rep at h; exact h
    rw [h']
    rfl
  | .int b, v, h => by
    have h' : v = .int b := by unfold Rep at h; exact h
    rw [h']
    rfl
  | .str b, v, h => by
    have h' : v = .str b := by unfold Rep at h; exact h
    rw [h']
    rfl
  | .list xs, v, h => by
    obtain ⟨a, vs, rfl, _⟩ := h
    rfl
  | .tuple xs, v, h => by
    obtain ⟨a, vs, rfl, _⟩ := h
    rfl
  | .dict xs, v, h => by
    obtain ⟨a, rfl, _⟩ := h
    rfl
def opIs : List PyData → Option RV
  | [d, .none] => some (.fro (.bool (isNone d)))
  | [.bool a, .bool b] => some (.fro (.bool (decide (a = b))))
  | _ => none
def opIsNot : List PyData → Option RV
  | [d, .none] => some (.fro (.bool (!isNone d)))
  | [.bool a, .bool b] => some (.fro (.bool (!decide (a = b))))
  | _ => none
theorem or_is : OpR X (compareOp .Is) (rD2 X.K opIs) := by
  intro pins s σ H x y v u Q I rx ry h
  obtain ⟨F, ds, rv, e, rb, eo, q⟩ := h
  unfold opIs at eo
  split at eo
  · obtain ⟨x', y', ee, h1, h2⟩ := rb.two
    cases ee
    cases eo
    obtain rfl := h2.none
    refine op_isN pins s σ H _ _ v u Q I rx ry ⟨rfl, ?_⟩
    rw [(h1.rep e).isNone]
    exact q _ F H (Grow.refl e) (rvg_bl _)
  · obtain ⟨x', y', ee, h1, h2⟩ := rb.two
    cases ee
    cases eo
    obtain rfl := h1.bool
    obtain rfl := h2.bool
    exact op_isBl pins s σ H _ _ v u Q I rx ry ⟨_, _, rfl, rfl, q _ F H (Grow.refl e) (rvg_bl _)⟩
  · cases eo
theorem or_isnot : OpR X (compareOp .IsNot) (rD2 X.K opIsNot) := by
  intro pins s σ H x y v u Q I rx ry h
  obtain ⟨F, ds, rv, e, rb, eo, q⟩ := h
  unfold opIsNot at eo
  split at eo
  · obtain ⟨x', y', ee, h1, h2⟩ := rb.two
    cases ee
    cases eo
    obtain rfl := h2.none
    refine op_notN pins s σ H _ _ v u Q I rx ry ⟨rfl, ?_⟩
    rw [(h1.rep e).isNone]
    exact q _ F H (Grow.refl e) (rvg_bl _)
  · obtain ⟨x', y', ee, h1, h2⟩ := rb.two
    cases ee
    cases eo
    obtain rfl := h1.bool
    obtain rfl := h2.bool
    exact op_isnot_bl pins s σ H _ _ v u Q I rx ry ⟨_, _, rfl, rfl, q _ F H (Grow.refl e) (rvg_bl _)⟩
  · cases eo

/-! ### dicts by data -/
def dget (kvs : List (PyData × PyData)) (k : PyData) : Option PyData := (kvs.find? fun p => PyData.eqv p.1 k).map (·.2)
def dput (kvs : List (PyData × PyData)) (k v : PyData) : List (PyData × PyData) :=
  if kvs.any (fun p => PyData.eqv p.1 k) then kvs.map fun p => if PyData.eqv p.1 k then (p.1, v) else p else kvs ++ [(k, v)]
theorem eqv_keyD : ∀ (a b : Key), PyData.eqv (keyD a) (keyD b) = decide (a = b)
  | .inl i, .inl j => by
    show PyData.eqv (.int i) (.int j) = _
    unfold PyData.eqv
    rw [key_ll]
  | .inl i, .inr j => by
    show PyData.eqv (.int i) (.str j) = _
    unfold PyData.eqv
    rw [key_lr]
  | .inr i, .inl j => by
    show PyData.eqv (.str i) (.int j) = _
    unfold PyData.eqv
    rw [key_rl]
  | .inr i, .inr j => by
    show PyData.eqv (.str i) (.str j) = _
    unfold PyData.eqv
    rw [key_rr, Bool.beq_eq_decide_eq]
theorem eqv_keysD : ∀ (a b : List Key), PyData.eqvAll (a.map keyD) (b.map keyD) = decide (a = b)
  | [], [] => by
    show PyData.eqvAll [] [] = _
    unfold PyData.eqvAll
    simp
  | [], y :: ys => by
    show PyData.eqvAll [] (_ :: _) = _
    unfold PyData.eqvAll
    simp
  | x :: xs, [] => by
    show PyData.eqvAll (_ :: _) [] = _
    unfold PyData.eqvAll
    simp
  | x :: xs, y :: ys => by
    show PyData.eqvAll (_ :: _) (_ :: _) = _
    unfold PyData.eqvAll
    rw [eqv_keyD, eqv_keysD xs ys]
    by_cases h1 : x = y
    · by_cases h2 : xs = ys
      · rw [h1, h2]
        simp
      · rw [decide_eq_false h2, Bool.and_false, decide_eq_false]
        exact fun q => h2 (List.cons.inj q).2
    · rw [decide_eq_false h1, Bool.false_and, decide_eq_false]
      exact fun q => h1 (List.cons.inj q).1
section
variable {K : PySem.W.Frag} {F : Hp}
theorem RepT.get : ∀ {kvs : List (PyData × PyData)} {ks : List (List Key × V)} (k : List Key), RepT K F kvs ks →
    (valV ks k = none ∧ dget kvs (.tuple (k.map keyD)) = none) ∨ ∃ v d, valV ks k = some v ∧ dget kvs (.tuple (k.map keyD)) = some d ∧ Rep K F d v
  | [], _, k, h => by
    have h' : _ = [] := h
    subst h'
    exact .inl ⟨rfl, rfl⟩
  | (kd, d) :: r, _, k, h => by
    obtain ⟨kk, v, r', rfl, rfl, h3, h4⟩ := h
    have ek : PyData.eqv (.tuple (kk.map keyD)) (.tuple (k.map keyD)) = decide (kk = k) := by
      rw [← eqv_keysD]
      unfold PyData.eqv
      rfl
    by_cases e : kk = k
    · refine .inr ⟨v, d, valV_pos (p := (kk, v)) e, ?_, h3⟩
      unfold dget
      rw [List.find?_cons_of_pos (by rw [ek]; exact decide_eq_true e)]
      rfl
    · have e1 : valV ((kk, v) :: r') k = valV r' k := valV_neg (p := (kk, v)) e
      have e2 : dget ((.tuple (kk.map keyD), d) :: r) (.tuple (k.map keyD)) = dget r (.tuple (k.map keyD)) := by
        unfold dget
        rw [List.find?_cons_of_neg (by rw [ek]; simpa using e)]
      rw [e1, e2]
      exact RepT.get k h4
theorem RepA.get : ∀ {kvs : List (PyData × PyData)} {ks : List (Key × V)} (k : Key), RepA K F kvs ks →
    (valV ks k = none ∧ dget kvs (keyD k) = none) ∨ ∃ v d, valV ks k = some v ∧ dget kvs (keyD k) = some d ∧ Rep K F d v
  | [], _, k, h => by
    have h' : _ = [] := h
    subst h'
    exact .inl ⟨rfl, rfl⟩
  | (kd, d) :: r, _, k, h => by
    obtain ⟨kk, v, r', rfl, rfl, h3, h4⟩ := h
    have ek := eqv_keyD kk k
    by_cases e : kk = k
    · refine .inr ⟨v, d, valV_pos (p := (kk, v)) e, ?_, h3⟩
      unfold dget
      rw [List.find?_cons_of_pos (by rw [ek]; exact decide_eq_true e)]
      rfl
    · have e1 : valV ((kk, v) :: r') k = valV r' k := valV_neg (p := (kk, v)) e
      have e2 : dget ((keyD kk, d) :: r) (keyD k) = dget r (keyD k) := by
        unfold dget
        rw [List.find?_cons_of_neg (by rw [ek]; simpa using e)]
      rw [e1, e2]
      exact RepA.get k h4
end
/-- data that may be a key: a number, a text; a tuple of such -/
def keyOf : PyData → Option Key
  | .int i => some (.inl i)
  | .str x => some (.inr x)
  | _ => none
def keysOf : List PyData → Option (List Key)
  | [] => some []
  | d :: ds => (keyOf d).bind fun k => (keysOf ds).bind fun ks => some (k :: ks)
theorem keyOf_some : ∀ {d : PyData} {k : Key}, keyOf d = some k → d = keyD k
  | .int i, k, h => by cases h; rfl
  | .str i, k, h => by cases h; rfl
  | .none, k, h => by cases h
  | .bool _, k, h => by cases h
  | .list _, k, h => by cases h
  | .tuple _, k, h => by cases h
  | .dict _, k, h => by cases h
theorem keysOf_some : ∀ {d : List PyData} {k : List Key}, keysOf d = some k → d = k.map keyD
  | [], k, h => by
    cases h
    rfl
  | d :: ds, k, h => by
    unfold keysOf at h
    obtain ⟨k1, e1, h⟩ := Option.bind_eq_some_iff.mp h
    obtain ⟨ks, e2, h⟩ := Option.bind_eq_some_iff.mp h
    cases h
    rw [keyOf_some e1, keysOf_some e2]
    rfl
theorem rep_keyD {K : PySem.W.Frag} {F : Hp} : ∀ {k : Key} {v : V}, Rep K F (keyD k) v → v = kV k
  | .inl i, v, h => by
    have h' : Rep K F (.int i) v := h
    unfold Rep at h'
    exact h'
  | .inr i, v, h => by
    have h' : Rep K F (.str i) v := h
    unfold Rep at h'
    exact h'
theorem repL_keysD {K : PySem.W.Frag} {F : Hp} : ∀ {k : List Key} {v : List V}, RepL K F (k.map keyD) v → v = k.map kV
  | [], v, h => by
    have h' : RepL K F [] v := h
    unfold RepL at h'
    exact h'
  | k :: ks, v, h => by
    obtain ⟨x, r, rfl, h1, h2⟩ := h
    rw [rep_keyD h1, repL_keysD h2]
    rfl
def opIx : List PyData → Option RV
  | [.list xs, .int i] => (atI xs i).map .fro
  | [.tuple xs, .int i] => (atI xs i).map .fro
  | [.str x, .int i] => if x.length ≤ 1000000 then (atI x.cps.toList i).map fun c => .fro (.str ⟨#[c]⟩) else none
  | [.dict kvs, .tuple ks] => (keysOf ks).bind fun _ => (dget kvs (.tuple ks)).map .fro
  | [.dict kvs, .int i] => (dget kvs (.int i)).map .fro
  | [.dict kvs, .str i] => (dget kvs (.str i)).map .fro
  | _ => none
end
end PD
end

section
set_option maxHeartbeats 4000000
/-! PD4: subscripts, in, len, sums and the like, by data. -/
namespace PD
open PySem PySem.Spec PyProof.Rows L2

section
variable {X : Cx} {pins : List (Addr × Obj)} {σ : L2.St} {H F : Hp} {s : Shared}
/-- frozen data that is read -/
theorem rd_of_rep (I : Inv X pins σ H s) {d : PyData} {v : V} {u : Value} (h : Rep X.K H d v) (r : RelV v u) (n : d.canLay0 = true) : ∃ as, Reads s.heap u d as :=
  Dp.reads I d v u (Rep.dp d v (PyData.hasDict_of_canLay d n) h) r
theorem rdL_of_rep (I : Inv X pins σ H s) {ds : List PyData} {vs : List V} {us : List Value} (h : RepL X.K H ds vs) (r : Vals vs us) (n : PyData.canLayAll0 ds = true) : ∃ as, ReadsAll s.heap us ds as := by
  have hd : PyData.hasDictAll ds = false := by
    have := PyData.hasDict_of_canLay (.list ds) (by simpa [PyData.canLay0] using n)
    simpa [PyData.hasDict] using this
  exact Dp.readsAll I ds vs us (RepL.dp ds vs hd h) r
theorem key_is (I : Inv X pins σ H s) {b : Addr} {k : List Key} (h : SqT X.K H b (k.map kV)) : (tupleKind (mixKind X.prog X.w)).is s.heap k b := by
  obtain ⟨its, r, ⟨o, h1, h2, n, h3⟩, _⟩ := I.tuple h
  exact ⟨o, its.toArray, n, h1, h2, h3, by simpa using items_are r⟩

/-! ### a[i] -/
theorem ir_ix (hu : X.A.units + 1 < cLine) : IxR X (rD2 X.K opIx) := by
  intro value slice pins s σ H x y v u Q I rx ry h hs
  obtain ⟨F, ds, rv, e, rb, eo, q⟩ := h
  unfold opIx at eo
  split at eo
  · obtain ⟨x', y', ee, h1, h2⟩ := rb.two
    cases ee
    obtain rfl := h2.int
    obtain ⟨a, vs, rfl, s1, r1⟩ := h1.list e
    obtain ⟨d, hd, rfl⟩ := Option.map_eq_some_iff.mp eo
    have hd' := hd
    unfold atI at hd'
    obtain ⟨j, hj, hj2⟩ := Option.bind_eq_some_iff.mp hd'
    obtain ⟨w, hw, rw1⟩ := r1.get hj2
    exact ix_list value slice pins s σ H _ _ v u Q I rx ry ⟨_, _, _, w, rfl, rfl, s1, by unfold atI; rw [r1.length, hj]; exact hw, q _ F H (Grow.refl e) rw1⟩ hs
  · obtain ⟨x', y', ee, h1, h2⟩ := rb.two
    cases ee
    obtain rfl := h2.int
    obtain ⟨a, vs, rfl, s1, r1, _⟩ := h1.tuple e
    obtain ⟨d, hd, rfl⟩ := Option.map_eq_some_iff.mp eo
    have hd' := hd
    unfold atI at hd'
    obtain ⟨j, hj, hj2⟩ := Option.bind_eq_some_iff.mp hd'
    obtain ⟨w, hw, rw1⟩ := r1.get hj2
    exact ix_tup value slice pins s σ H _ _ v u Q I rx ry ⟨_, _, _, w, rfl, rfl, s1, by unfold atI; rw [r1.length, hj]; exact hw, q _ F H (Grow.refl e) rw1⟩ hs
  · split at eo
    · rename_i hz
      obtain ⟨x', y', ee, h1, h2⟩ := rb.two
      cases ee
      obtain rfl := h1.str
      obtain rfl := h2.int
      obtain ⟨c, hc, rfl⟩ := Option.map_eq_some_iff.mp eo
      exact ix_str value slice pins s σ H _ _ v u Q I rx ry ⟨_, _, c, rfl, rfl, by rw [sizeLine_eq]; omega, hc, q _ F H (Grow.refl e) (rvg_str _)⟩ hs
    · cases eo
  · obtain ⟨x', y', ee, h1, h2⟩ := rb.two
    cases ee
    obtain ⟨k, hk, eo⟩ := Option.bind_eq_some_iff.mp eo
    obtain ⟨d, hd, rfl⟩ := Option.map_eq_some_iff.mp eo
    have ek := keysOf_some hk
    subst ek
    obtain ⟨b, vs, rfl, s2, r2, _⟩ := h2.tuple e
    have ev := repL_keysD r2
    subst ev
    obtain ⟨a, rfl, h3⟩ := h1.dict e
    cases (show v = Value.ref a from rx)
    cases (show u = Value.ref b from ry)
    rcases h3 with ⟨ks, h4, h5⟩ | ⟨ks, h4, h5⟩
    · rcases h5.get k with ⟨z1, z2⟩ | ⟨w, d', z1, z2, z3⟩
      · rw [z2] at hd
        cases hd
      · rw [z2] at hd
        cases hd
        obtain ⟨z, hds, xs, rel, dd⟩ := dt_rd I.hok h4
        obtain ⟨w', hw, rw'⟩ := RelO.some_of (v := w) (o := (atKey xs k).map (·.2)) (by rw [← z1]; exact rel.val k)
        obtain ⟨p, hp, hp2⟩ := Option.map_eq_some_iff.mp hw
        refine tail_any dd.typeIs PySem.F.slot_dict_getitem.lookup (wpAny_getItem_heap (tupleKind_room_in1 hu) (key_is I s2) dd hp ?_) hs
        rw [hp2]
        exact ⟨w, H, I.tok _, rw', q _ F H (Grow.refl e) z3⟩
    · exfalso
      clear q rx ry hs I
      have : ∀ {kvs : List (PyData × PyData)} {ks : List (Key × V)}, RepA X.K F kvs ks → dget kvs (.tuple (k.map keyD)) = none := by
        intro kvs
        induction kvs with
        | nil => intro _ _; rfl
        | cons p r ih =>
          intro ks h
          obtain ⟨kd, d0⟩ := p
          obtain ⟨kk, v0, r', rfl, rfl, _, h4⟩ := h
          unfold dget
          rw [List.find?_cons_of_neg (by
            cases kk <;> (show ¬ PyData.eqv _ _ = true) <;> unfold keyD PyData.eqv <;> simp)]
          exact ih h4
      rw [this h5] at hd
      cases hd
  · obtain ⟨x', y', ee, h1, h2⟩ := rb.two
    cases ee
    obtain rfl := h2.int
    obtain ⟨d, hd, rfl⟩ := Option.map_eq_some_iff.mp eo
    obtain ⟨a, rfl, h3⟩ := h1.dict e
    cases (show v = Value.ref a from rx)
    rename_i kvs i
    rcases h3 with ⟨ks, h4, h5⟩ | ⟨ks, h4, h5⟩
    · exfalso
      have : ∀ {kvs : List (PyData × PyData)} {ks : List (List Key × V)}, RepT X.K F kvs ks → dget kvs (.int i) = none := by
        intro kvs
        induction kvs with
        | nil => intro _ _; rfl
        | cons p r ih =>
          intro ks h
          obtain ⟨kd, d0⟩ := p
          obtain ⟨kk, v0, r', rfl, rfl, _, h4⟩ := h
          unfold dget
          rw [List.find?_cons_of_neg (by
            show ¬ PyData.eqv _ _ = true
            unfold PyData.eqv
            simp)]
          exact ih h4
      rw [this h5] at hd
      cases hd
    · rcases h5.get (.inl i) with ⟨z1, z2⟩ | ⟨w, d', z1, z2, z3⟩
      · rw [show dget kvs (.int i) = none from z2] at hd
        cases hd
      · rw [show dget kvs (.int i) = some d' from z2] at hd
        cases hd
        have g : DGet H a (kV (.inl i)) (some w) := .inl ⟨ks, .inl i, h4, rfl, z1.symm⟩
        exact tail_any (dict_typeIs I g) PySem.F.slot_dict_getitem.lookup (d_getItem hu I g ry fun w' s' I' rw' => ⟨w, H, I', rw', q _ F H (Grow.refl e) z3⟩) hs
  · obtain ⟨x', y', ee, h1, h2⟩ := rb.two
    cases ee
    obtain rfl := h2.str
    obtain ⟨d, hd, rfl⟩ := Option.map_eq_some_iff.mp eo
    obtain ⟨a, rfl, h3⟩ := h1.dict e
    cases (show v = Value.ref a from rx)
    rename_i kvs i
    rcases h3 with ⟨ks, h4, h5⟩ | ⟨ks, h4, h5⟩
    · exfalso
      have : ∀ {kvs : List (PyData × PyData)} {ks : List (List Key × V)}, RepT X.K F kvs ks → dget kvs (.str i) = none := by
        intro kvs
        induction kvs with
        | nil => intro _ _; rfl
        | cons p r ih =>
          intro ks h
          obtain ⟨kd, d0⟩ := p
          obtain ⟨kk, v0, r', rfl, rfl, _, h4⟩ := h
          unfold dget
          rw [List.find?_cons_of_neg (by
            show ¬ PyData.eqv _ _ = true
            unfold PyData.eqv
            simp)]
          exact ih h4
      rw [this h5] at hd
      cases hd
    · rcases h5.get (.inr i) with ⟨z1, z2⟩ | ⟨w, d', z1, z2, z3⟩
      · rw [show dget kvs (.str i) = none from z2] at hd
        cases hd
      · rw [show dget kvs (.str i) = some d' from z2] at hd
        cases hd
        have g : DGet H a (kV (.inr i)) (some w) := .inl ⟨ks, .inr i, h4, rfl, z1.symm⟩
        exact tail_any (dict_typeIs I g) PySem.F.slot_dict_getitem.lookup (d_getItem hu I g ry fun w' s' I' rw' => ⟨w, H, I', rw', q _ F H (Grow.refl e) z3⟩) hs
  · cases eo
end
end PD
end

section
set_option maxHeartbeats 4000000
/-! PD5: tests, branches, displays; statements. -/
namespace PD
open PySem PySem.Spec PyProof.Rows L2

/-! ### tests -/
abbrev TF := Env → Res Bool
def toTT (B : Bx) (f : TF) : TT := fun σ H Q => ∃ F Γ b Γ', Ok B ⟨F, H, σ, Γ⟩ ∧ f Γ = .ok b Γ' ∧ ∀ F' H', Ok B ⟨F', H', σ, Γ'⟩ → Step ⟨F, H, σ, Γ⟩ ⟨F', H', σ, Γ'⟩ → Q b H'
abbrev ET (B : Bx) (X : Cx) (e : Expr) (f : TF) : Prop := PT X e (toTT B f)
abbrev EW (B : Bx) (X : Cx) (e : Expr) (f : TF) : Prop := PW X e (toTT B f)
theorem PW.imp {X : Cx} {e : Expr} {t t' : TT} (h : PW X e t) (i : ∀ σ H Q, t' σ H Q → t σ H Q) : PW X e t' := ⟨fun w pins s σ H Q I q => h.run w pins s σ H Q I (i σ H Q q)⟩
def asB : RV → Env → Res Bool
  | .fro (.bool b), Γ => .ok b Γ
  | _, _ => .bad
@[simp] theorem asB_bool (b : Bool) (Γ : Env) : asB (.fro (.bool b)) Γ = .ok b Γ := rfl
theorem of_asB {r : RV} {Γ Γ' : Env} {b : Bool} (h : asB r Γ = .ok b Γ') : r = .fro (.bool b) ∧ Γ' = Γ := by
  unfold asB at h
  split at h
  · cases h
    exact ⟨rfl, rfl⟩
  · cases h
def boolF (f : EF) : TF := fun Γ => (f Γ).bind asB
def notF (f : TF) : TF := fun Γ => (f Γ).bind fun b Γ' => .ok (!b) Γ'
def andF (f g : TF) : TF := fun Γ => (f Γ).bind fun b Γ' => if b = true then g Γ' else .ok false Γ'
def orF (f g : TF) : TF := fun Γ => (f Γ).bind fun b Γ' => if b = true then .ok true Γ' else g Γ'
section
variable {B : Bx} {X : Cx}
theorem toTE_bool {f : EF} {σ : L2.St} {H : Hp} {Q : Bool → Hp → Prop} (h : toTT B (boolF f) σ H Q) : toTE B f σ H fun x H1 => ∃ k, x = .bl k ∧ Q k H1 := by
  obtain ⟨F, Γ, b, Γ', k, e, q⟩ := h
  obtain ⟨r, Γ1, e1, e2⟩ := Res.of_bind e
  obtain ⟨rfl, rfl⟩ := of_asB e2
  refine toTE_mk k e1 fun v F' H' k' st rv => ?_
  have hv : v = .bl b := by
    have rv' : Rep B.K F' (.bool b) v := rv
    unfold Rep at rv'
    exact rv'
  exact ⟨b, hv, q F' H' k' st⟩
theorem et_val {e : Expr} {f : EF} (h : EE B X e f) (he : ∀ whole, isTrue e X.env whole = (do let v ← whole; standAt e.pos; holding [v] (truthy v)) := by intro _; rfl) : ET B X e (boolF f) :=
  PT.imp (pt_val h he) fun _ _ _ q => toTE_bool q
theorem et_cmp {op : CmpOp} {o : List PyData → Option RV} {a b : Expr} {fa fb : ArgF} {pos : Pos} (hK : X.K = B.K) (ho : OpR X (compareOp op) (rD2 X.K o)) (ha : EA B X a fa) (hb : EA B X b fb) (hm : behindInMarks op b = false := by first | exact nomark _ | rfl) :
    ET B X (.Compare a [op] [b] pos) (boolF (opF o [fa, fb])) := PT.imp (pt_cmpR ho ha hb hm) fun σ H Q q => by
    rw [hK]
    exact opF_te (toTE_bool q)
theorem et_not {a : Expr} {f : TF} {pos : Pos} (h : ET B X a f) : ET B X (.UnaryOp .Not a pos) (notF f) := PT.imp (pt_not h) fun σ H Q q => by
  obtain ⟨F, Γ, b, Γ', k, e, q⟩ := q
  obtain ⟨c, Γ1, e1, e2⟩ := Res.of_bind e
  cases e2
  exact ⟨F, Γ, c, Γ', k, e1, q⟩
theorem ew_and1 {a : Expr} {f : TF} {pos : Pos} (h : ET B X a f) : EW B X (.BoolOp .And [a] pos) f := pw_and1 h
theorem ew_or1 {a : Expr} {f : TF} {pos : Pos} (h : ET B X a f) : EW B X (.BoolOp .Or [a] pos) f := pw_or1 h
theorem ew_and {a b : Expr} {rest : List Expr} {f g : TF} {pos : Pos} (h : ET B X a f) (hr : EW B X (.BoolOp .And (b :: rest) pos) g) : EW B X (.BoolOp .And (a :: b :: rest) pos) (andF f g) := PW.imp (pw_and h hr) fun σ H Q q => by
  obtain ⟨F, Γ, b, Γ', k, e, q⟩ := q
  obtain ⟨c, Γ1, e1, e2⟩ := Res.of_bind e
  refine ⟨F, Γ, c, Γ1, k, e1, fun F1 H1 k1 st1 => ?_⟩
  cases c with
  | true => exact ⟨F1, Γ1, b, Γ', k1, e2, fun F2 H2 k2 st2 => q F2 H2 k2 (st1.trans st2)⟩
  | false =>
    cases e2
    exact q F1 H1 k1 st1
theorem ew_or {a b : Expr} {rest : List Expr} {f g : TF} {pos : Pos} (h : ET B X a f) (hr : EW B X (.BoolOp .Or (b :: rest) pos) g) : EW B X (.BoolOp .Or (a :: b :: rest) pos) (orF f g) := PW.imp (pw_or h hr) fun σ H Q q => by
  obtain ⟨F, Γ, b, Γ', k, e, q⟩ := q
  obtain ⟨c, Γ1, e1, e2⟩ := Res.of_bind e
  refine ⟨F, Γ, c, Γ1, k, e1, fun F1 H1 k1 st1 => ?_⟩
  cases c with
  | true =>
    cases e2
    exact q F1 H1 k1 st1
  | false => exact ⟨F1, Γ1, b, Γ', k1, e2, fun F2 H2 k2 st2 => q F2 H2 k2 (st1.trans st2)⟩
theorem et_w {e : Expr} {f : TF} (h : EW B X e f) : ET B X e f := h.pt

/-! ### .. as values -/
def andVF (f g : EF) : EF := fun Γ => (boolF f Γ).bind fun b Γ' => if b = true then g Γ' else .ok (.fro (.bool false)) Γ'
def orVF (f g : EF) : EF := fun Γ => (boolF f Γ).bind fun b Γ' => if b = true then .ok (.fro (.bool true)) Γ' else g Γ'
def notVF (f : EF) : EF := fun Γ => (boolF f Γ).bind fun b Γ' => .ok (.fro (.bool (!b))) Γ'
def ifF (t : TF) (f g : EF) : EF := fun Γ => (t Γ).bind fun b Γ' => if b = true then f Γ' else g Γ'
theorem RVok.step {s0 s s' : Sx} {v : V} {r : RV} (st : Step s0 s) (h : RVok B s s' v r) : RVok B s0 s' v r := by
  cases r with
  | fro d => exact h
  | nw c =>
    obtain ⟨p, h1, h2, h3, h4, h5⟩ := h
    exact ⟨p, h1, h2, h3, st.none_back h4, h5⟩
theorem toTE_more {f : EF} {F H : Hp} {σ : L2.St} {Γ Γ' : Env} {r : RV} {Q : VK} {s0 : Sx} (st : Step s0 ⟨F, H, σ, Γ⟩) (k : Ok B ⟨F, H, σ, Γ⟩) (e : f Γ = .ok r Γ')
    (h : ∀ v F' H', Ok B ⟨F', H', σ, Γ'⟩ → Step s0 ⟨F', H', σ, Γ'⟩ → RVok B s0 ⟨F', H', σ, Γ'⟩ v r → Q v H') : toTE B f σ H Q :=
  toTE_mk k e fun v F' H' k' st' rv => h v F' H' k' (st.trans st') (rv.step st)
theorem ee_one {op} {a : Expr} {f : EF} {pos : Pos} (h : EE B X a f) : EE B X (.BoolOp op [a] pos) f := pe_one h
theorem ee_and {a b : Expr} {rest : List Expr} {f g : EF} {pos : Pos} (ha : EE B X a f) (hb : EE B X (.BoolOp .And (b :: rest) pos) g) : EE B X (.BoolOp .And (a :: b :: rest) pos) (andVF f g) := PE.imp (pe_and ha hb) fun σ H Q q => by
  obtain ⟨F, Γ, r, Γ', k, e, q⟩ := toTE_ok q
  obtain ⟨b, Γ1, e1, e2⟩ := Res.of_bind e
  refine toTE_bool ⟨F, Γ, b, Γ1, k, e1, fun F1 H1 k1 st1 => ?_⟩
  cases b with
  | true => exact toTE_more st1 k1 e2 q
  | false =>
    cases e2
    exact q _ F1 H1 k1 st1 (rvg_bl (H' := H1) (H := H1) false)
theorem ee_or {a b : Expr} {rest : List Expr} {f g : EF} {pos : Pos} (ha : EE B X a f) (hb : EE B X (.BoolOp .Or (b :: rest) pos) g) : EE B X (.BoolOp .Or (a :: b :: rest) pos) (orVF f g) := PE.imp (pe_or ha hb) fun σ H Q q => by
  obtain ⟨F, Γ, r, Γ', k, e, q⟩ := toTE_ok q
  obtain ⟨b, Γ1, e1, e2⟩ := Res.of_bind e
  refine toTE_bool ⟨F, Γ, b, Γ1, k, e1, fun F1 H1 k1 st1 => ?_⟩
  cases b with
  | true =>
    cases e2
    exact q _ F1 H1 k1 st1 (rvg_bl (H' := H1) (H := H1) true)
  | false => exact toTE_more st1 k1 e2 q
theorem ee_not {a : Expr} {f : EF} {pos : Pos} (ha : EE B X a f) : EE B X (.UnaryOp .Not a pos) (notVF f) := PE.imp (pe_not ha) fun σ H Q q => by
  obtain ⟨F, Γ, r, Γ', k, e, q⟩ := toTE_ok q
  obtain ⟨b, Γ1, e1, e2⟩ := Res.of_bind e
  cases e2
  exact toTE_bool ⟨F, Γ, b, Γ', k, e1, fun F1 H1 k1 st1 => q _ F1 H1 k1 st1 (rvg_bl (H' := H1) (H := H1) _)⟩
theorem ee_if {c a b : Expr} {t : TF} {f g : EF} {pos : Pos} (hc : ET B X c t) (ha : EE B X a f) (hb : EE B X b g) : EE B X (.IfExp c a b pos) (ifF t f g) := PE.imp (pe_ifExp hc ha hb) fun σ H Q q => by
  obtain ⟨F, Γ, r, Γ', k, e, q⟩ := toTE_ok q
  obtain ⟨b, Γ1, e1, e2⟩ := Res.of_bind e
  refine ⟨F, Γ, b, Γ1, k, e1, fun F1 H1 k1 st1 => ?_⟩
  cases b with
  | true => exact toTE_more st1 k1 e2 q
  | false => exact toTE_more st1 k1 e2 q

/-! ### displays -/
def evalFs : List EF → Env → Res (List PyData)
  | [], Γ => .ok [] Γ
  | f :: fs, Γ => (f Γ).bind fun r Γ1 => (evalFs fs Γ1).bind fun ds Γ2 => .ok (r.toD :: ds) Γ2
theorem fs_run : ∀ {fs : List EF} {F H : Hp} {σ : L2.St} {Γ Γ' : Env} {ds : List PyData} {Q : List V → Hp → Prop}, Ok B ⟨F, H, σ, Γ⟩ → evalFs fs Γ = .ok ds Γ' →
    (∀ vs F' H', Ok B ⟨F', H', σ, Γ'⟩ → Step ⟨F, H, σ, Γ⟩ ⟨F', H', σ, Γ'⟩ → RepL B.K F' ds vs → Q vs H') → toTAa B (fs.map .e) σ H Q
  | [], F, H, σ, Γ, Γ', ds, Q, k, e, h => by
    cases e
    exact h [] F H k (Step.refl _) rfl
  | f :: fs, F, H, σ, Γ, Γ', ds, Q, k, e, h => by
    obtain ⟨r, Γ1, e1, e2⟩ := Res.of_bind (show (f Γ).bind _ = _ from e)
    obtain ⟨ds1, Γ2, e2, e3⟩ := Res.of_bind e2
    cases e3
    refine toTE_fro k e1 fun v F1 H1 k1 st1 r1 => ?_
    refine fs_run k1 e2 fun vs F2 H2 k2 st2 r2 => ?_
    exact h (v :: vs) F2 H2 k2 (st1.trans st2) ⟨v, vs, rfl, r1.same st2.same, r2⟩
abbrev EFs (B : Bx) (X : Cx) (es : List Expr) (fs : List EF) : Prop := EAs B X es (fs.map .e)
theorem efs_nil : EFs B X [] [] := pa_nil
theorem efs_cons {e : Expr} {es : List Expr} {f : EF} {fs : List EF} (h : EE B X e f) (hr : EFs B X es fs) (hs : starEach (e :: es) X.env = (false, eval e X.env) :: starEach es X.env := by rfl) : EFs B X (e :: es) (f :: fs) := pa_cons h hr hs
def tupF (fs : List EF) : EF := fun Γ => (evalFs fs Γ).bind fun ds Γ' => .ok (.fro (.tuple ds)) Γ'
def lstF (fs : List EF) : EF := fun Γ => (evalFs fs Γ).bind fun ds Γ' => .ok (.nw (.lst ds)) Γ'
theorem evalFs_length : ∀ {fs : List EF} {Γ Γ' : Env} {ds : List PyData}, evalFs fs Γ = .ok ds Γ' → ds.length = fs.length
  | [], _, _, _, e => by cases e; rfl
  | f :: fs, Γ, Γ', ds, e => by
    obtain ⟨r, Γ1, e1, e2⟩ := Res.of_bind (show (f Γ).bind _ = _ from e)
    obtain ⟨ds1, Γ2, e2, e3⟩ := Res.of_bind e2
    cases e3
    rw [List.length_cons, List.length_cons, evalFs_length e2]
theorem ee_tup {es : List Expr} {fs : List EF} {x1} {pos : Pos} (h : EFs B X es fs) (hl : fs.length ≤ 1000 := by decide) : EE B X (.Tuple es x1 pos) (tupF fs) := PE.imp (pe_tup h) fun σ H Q q => by
  obtain ⟨F, Γ, r, Γ', k, e, q⟩ := toTE_ok q
  obtain ⟨ds, Γ1, e1, e2⟩ := Res.of_bind e
  cases e2
  refine fs_run k e1 fun vs F1 H1 k1 st1 r1 => ⟨?_, fun p hp => ?_⟩
  · rw [r1.length, evalFs_length e1, sizeLine_eq]
    omega
  · obtain ⟨k2, st2⟩ := k1.grow (Grow.newF k1.ext (.tup vs) hp)
    exact q _ _ _ k2 (st1.trans st2) ⟨p, vs, rfl, .inl upd_same, r1.same (same_upd (k1.ext.none hp))⟩
theorem ee_lst {es : List Expr} {fs : List EF} {pos : Pos} (h : EFs B X es fs) (hl : fs.length ≤ 1000 := by decide) : EE B X (.List es pos) (lstF fs) := PE.imp (pe_lst h) fun σ H Q q => by
  obtain ⟨F, Γ, r, Γ', k, e, q⟩ := toTE_ok q
  obtain ⟨ds, Γ1, e1, e2⟩ := Res.of_bind e
  cases e2
  refine fs_run k e1 fun vs F1 H1 k1 st1 r1 => ⟨?_, fun p hp => ?_⟩
  · rw [r1.length, evalFs_length e1, sizeLine_eq]
    omega
  · obtain ⟨k2, st2⟩ := k1.grow (Grow.new k1.ext (.lst vs) hp)
    refine q _ _ _ k2 (st1.trans st2) (RVg.ok (F' := F1) (H' := upd H1 p (.lst vs)) k1 st1 ?_)
    exact ⟨p, rfl, k1.ext.none hp, ⟨vs, upd_same, r1⟩, hp⟩
/-- {} whose keys will be tuples; numbers, texts -/
def dctF : EF := fun Γ => .ok (.nw (.dct [])) Γ
def dckF : EF := fun Γ => .ok (.nw (.dck [])) Γ
theorem ee_dct {pos : Pos} : EE B X (.Dict [] [] pos) dctF := PE.imp pe_dnewT fun σ H Q q => by
  obtain ⟨F, Γ, r, Γ', k, e, q⟩ := toTE_ok q
  cases e
  intro p hp
  obtain ⟨k2, st2⟩ := k.grow (Grow.new k.ext (.dT []) hp)
  exact q _ _ _ k2 st2 (RVg.ok (F' := F) (H' := upd H p (.dT [])) k (Step.refl _) ⟨p, rfl, k.ext.none hp, ⟨[], upd_same, rfl⟩, hp⟩)
theorem ee_dck {pos : Pos} : EE B X (.Dict [] [] pos) dckF := PE.imp pe_dnewK fun σ H Q q => by
  obtain ⟨F, Γ, r, Γ', k, e, q⟩ := toTE_ok q
  cases e
  intro p hp
  obtain ⟨k2, st2⟩ := k.grow (Grow.new k.ext (.dK []) hp)
  exact q _ _ _ k2 st2 (RVg.ok (F' := F) (H' := upd H p (.dK [])) k (Step.refl _) ⟨p, rfl, k.ext.none hp, ⟨[], upd_same, rfl⟩, hp⟩)
/-- a < b < c -/
def chainF (o o' : List PyData → Option RV) (a b c : EF) : EF := fun Γ => (a Γ).bind fun r1 Γ1 => (b Γ1).bind fun r2 Γ2 => (ofOpt (o [r1.toD, r2.toD]) Γ2).bind fun r Γ2 => (asB r Γ2).bind fun k Γ2 =>
  if k = true then (c Γ2).bind fun r3 Γ3 => (ofOpt (o' [r2.toD, r3.toD]) Γ3).bind fun r Γ3 => (asB r Γ3).bind fun k Γ3 => .ok (.fro (.bool k)) Γ3 else .ok (.fro (.bool false)) Γ2
theorem rD_two {K : PySem.W.Frag} {o : List PyData → Option RV} {F H : Hp} {d1 d2 : PyData} {x y : V} {k : Bool} {Q : VK} (e : Ext F H) (r1 : Rep K F d1 x) (r2 : Rep K F d2 y) (eo : o [d1, d2] = some (.fro (.bool k))) (q : ∀ F' H', Grow F H F' H' → Q (.bl k) H') : rD2 K o x y H Q :=
  ⟨F, [d1, d2], _, e, ⟨x, [y], rfl, .inl r1, y, [], rfl, .inl r2, rfl⟩, eo, fun v F' H' g rv => by
    have rv' : Rep K F' (.bool k) v := rv
    unfold Rep at rv'
    rw [rv']
    exact q F' H' g⟩
theorem chain_te {o o' : List PyData → Option RV} {a b c : EF} {σ : L2.St} {H : Hp} {Q : VK} (q : toTE B (chainF o o' a b c) σ H Q) : tChain (rD2 B.K o) (rD2 B.K o') (toTE B a) (toTE B b) (toTE B c) σ H Q := by
  obtain ⟨F, Γ, r, Γ', k, e, q⟩ := toTE_ok q
  obtain ⟨r1, Γ1, e1, w2⟩ := Res.of_bind e
  obtain ⟨r2, Γ2, e2, w3⟩ := Res.of_bind w2
  obtain ⟨r3, Γ3, e3', w4⟩ := Res.of_bind w3
  obtain ⟨e3, rfl⟩ := of_ofOpt e3'
  obtain ⟨kb, Γ4, e4, e5⟩ := Res.of_bind w4
  obtain ⟨rfl, rfl⟩ := of_asB e4
  refine toTE_fro k e1 fun x F1 H1 k1 st1 p1 => ?_
  refine toTE_fro k1 e2 fun y F2 H2 k2 st2 p2 => ?_
  refine rD_two k2.ext (p1.same st2.same) p2 e3 fun F3 H3 g3 => ?_
  obtain ⟨k3, st3⟩ := k2.grow g3
  refine ⟨kb, rfl, ?_⟩
  cases kb with
  | true =>
    rw [if_pos rfl] at e5
    rw [if_pos rfl]
    obtain ⟨r5, Γ5, e51, w6⟩ := Res.of_bind e5
    obtain ⟨r6, Γ6, e6', w7⟩ := Res.of_bind w6
    obtain ⟨e6, rfl⟩ := of_ofOpt e6'
    obtain ⟨kb2, Γ7, e7, e8⟩ := Res.of_bind w7
    obtain ⟨rfl, rfl⟩ := of_asB e7
    cases e8
    refine toTE_fro k3 e51 fun z F4 H4 k4 st4 p4 => ?_
    refine rD_two k4.ext (p2.same (st3.same.trans st4.same)) p4 e6 fun F5 H5 g5 => ?_
    obtain ⟨k5, st5⟩ := k4.grow g5
    exact q _ F5 H5 k5 ((((st1.trans st2).trans st3).trans st4).trans st5) (rvg_bl (H' := H5) (H := H5) _)
  | false =>
    rw [if_neg Bool.false_ne_true] at e5
    rw [if_neg Bool.false_ne_true]
    cases e5
    exact q _ F3 H3 k3 ((st1.trans st2).trans st3) (rvg_bl (H' := H3) (H := H3) _)
theorem ee_chain {op op' : CmpOp} {o o' : List PyData → Option RV} {a b c : Expr} {fa fb fc : EF} {pos : Pos} (hK : X.K = B.K) (ho : OpR X (compareOp op) (rD2 X.K o)) (ho' : OpR X (compareOp op') (rD2 X.K o')) (ha : EE B X a fa) (hb : EE B X b fb) (hc : EE B X c fc)
    (hm : lastMarks [op, op'] [b, c] = false := by rfl) : EE B X (.Compare a [op, op'] [b, c] pos) (chainF o o' fa fb fc) := PE.imp (pe_chain ho ho' ha hb hc (hm := hm)) fun σ H Q q => by
  rw [hK]
  exact chain_te q
theorem et_chain {op op' : CmpOp} {o o' : List PyData → Option RV} {a b c : Expr} {fa fb fc : EF} {pos : Pos} (hK : X.K = B.K) (ho : OpR X (compareOp op) (rD2 X.K o)) (ho' : OpR X (compareOp op') (rD2 X.K o')) (ha : EE B X a fa) (hb : EE B X b fb) (hc : EE B X c fc)
    (hm : lastMarks [op, op'] [b, c] = false := by rfl) : ET B X (.Compare a [op, op'] [b, c] pos) (boolF (chainF o o' fa fb fc)) := PT.imp (pt_chain ho ho' ha hb hc (hm := hm)) fun σ H Q q => by
  rw [hK]
  exact chain_te (toTE_bool q)
end
end PD
end

section
set_option maxHeartbeats 4000000
/-! PD6: statements. -/
namespace PD
open PySem PySem.Spec PyProof.Rows L2

/-! ### a slot is set -/
def RV.sv : RV → SV
  | .fro d => .fro d
  | .nw c => .own none c
section
variable {B : Bx}
theorem set_cases {Γ : Env} {i j : Nat} {x : Option SV} {sv : SV} (q : (Γ.set i x)[j]? = some (some sv)) : (j = i ∧ x = some sv ∧ i < Γ.length) ∨ (j ≠ i ∧ Γ[j]? = some (some sv)) := by
  by_cases hj : j = i
  · subst hj
    by_cases hi : j < Γ.length
    · rw [List.getElem?_set_self hi] at q
      exact .inl ⟨rfl, Option.some.inj q, hi⟩
    · rw [List.getElem?_eq_none (by rw [List.length_set]; omega)] at q
      cases q
  · rw [List.getElem?_set_ne (Ne.symm hj)] at q
    exact .inr ⟨hj, q⟩
theorem Ok.drop {F H : Hp} {σ : L2.St} {Γ : Env} (k : Ok B ⟨F, H, σ, Γ⟩) (i : Nat) (y : Option V) : Ok B ⟨F, H, σ.set i y, Γ.set i none⟩ := by
  refine ⟨k.ext, by rw [List.length_set, List.length_set]; exact k.len, fun j d q => ?_, fun j t c q => ?_, fun j1 j2 t1 t2 c1 c2 p q1 q2 e1 e2 => ?_, k.dom⟩
  · rcases set_cases q with ⟨_, e, _⟩ | ⟨hj, q⟩
    · cases e
    · obtain ⟨v, h1, h2⟩ := k.fro j d q
      exact ⟨v, by rw [List.getElem?_set_ne (Ne.symm hj)]; exact h1, h2⟩
  · rcases set_cases q with ⟨_, e, _⟩ | ⟨hj, q⟩
    · cases e
    · obtain ⟨p, h1, h2⟩ := k.own j t c q
      exact ⟨p, by rw [List.getElem?_set_ne (Ne.symm hj)]; exact h1, h2⟩
  · rcases set_cases q1 with ⟨_, e, _⟩ | ⟨hj1, q1⟩
    · cases e
    · rcases set_cases q2 with ⟨_, e, _⟩ | ⟨hj2, q2⟩
      · cases e
      · rw [List.getElem?_set_ne (Ne.symm hj1)] at e1
        rw [List.getElem?_set_ne (Ne.symm hj2)] at e2
        exact k.dis j1 j2 t1 t2 c1 c2 p q1 q2 e1 e2
theorem IsOwn.drop {Γ : Env} {σ : L2.St} {i : Nat} {y : Option V} {p : Addr} (h : IsOwn (Γ.set i none) (σ.set i y) p) : IsOwn Γ σ p := by
  obtain ⟨j, t, c, q, e⟩ := h
  rcases set_cases q with ⟨_, e', _⟩ | ⟨hj, q⟩
  · cases e'
  · rw [List.getElem?_set_ne (Ne.symm hj)] at e
    exact ⟨j, t, c, q, e⟩
theorem Ok.set_fro {F H : Hp} {σ : L2.St} {Γ : Env} {i : Nat} {d : PyData} {v : V} (k : Ok B ⟨F, H, σ, Γ⟩) (r : Rep B.K F d v) : Ok B ⟨F, H, σ.set i (some v), Γ.set i (some (.fro d))⟩ := by
  refine ⟨k.ext, by rw [List.length_set, List.length_set]; exact k.len, fun j d' q => ?_, fun j t c q => ?_, fun j1 j2 t1 t2 c1 c2 p q1 q2 e1 e2 => ?_, k.dom⟩
  · rcases set_cases q with ⟨rfl, e, hl⟩ | ⟨hj, q⟩
    · cases e
      refine ⟨v, ?_, r⟩
      have hl' : j < σ.length := by
        have := k.len
        simp only at this
        omega
      exact List.getElem?_set_self hl'
    · obtain ⟨v', h1, h2⟩ := k.fro j d' q
      exact ⟨v', by rw [List.getElem?_set_ne (Ne.symm hj)]; exact h1, h2⟩
  · rcases set_cases q with ⟨_, e, _⟩ | ⟨hj, q⟩
    · cases e
    · obtain ⟨p, h1, h2⟩ := k.own j t c q
      exact ⟨p, by rw [List.getElem?_set_ne (Ne.symm hj)]; exact h1, h2⟩
  · rcases set_cases q1 with ⟨_, e, _⟩ | ⟨hj1, q1⟩
    · cases e
    · rcases set_cases q2 with ⟨_, e, _⟩ | ⟨hj2, q2⟩
      · cases e
      · rw [List.getElem?_set_ne (Ne.symm hj1)] at e1
        rw [List.getElem?_set_ne (Ne.symm hj2)] at e2
        exact k.dis j1 j2 t1 t2 c1 c2 p q1 q2 e1 e2
theorem IsOwn.set_fro {Γ : Env} {σ : L2.St} {i : Nat} {y : Option V} {d : PyData} {p : Addr} (h : IsOwn (Γ.set i (some (.fro d))) (σ.set i y) p) : IsOwn Γ σ p := by
  obtain ⟨j, t, c, q, e⟩ := h
  rcases set_cases q with ⟨_, e', _⟩ | ⟨hj, q⟩
  · cases e'
  · rw [List.getElem?_set_ne (Ne.symm hj)] at e
    exact ⟨j, t, c, q, e⟩
theorem Ok.set_own {F H : Hp} {σ : L2.St} {Γ : Env} {i : Nat} {c : Own} {p : Addr} {t : Option Nat} (k : Ok B ⟨F, H, σ, Γ⟩) (hF : F p = none) (ho : OwnOk B.K F H p c) (hn : ¬ IsOwn Γ σ p) (ht : Tag B p t) : Ok B ⟨F, H, σ.set i (some (.ref p)), Γ.set i (some (.own t c))⟩ := by
  have key : ∀ (j : Nat) t' c', j ≠ i → Γ[j]? = some (some (.own t' c')) → (σ.set i (some (.ref p)))[j]? ≠ some (some (.ref p)) := fun j t' c' hj q e => by
    rw [List.getElem?_set_ne (Ne.symm hj)] at e
    exact hn ⟨j, t', c', q, e⟩
  refine ⟨k.ext, by rw [List.length_set, List.length_set]; exact k.len, fun j d' q => ?_, fun j t' c' q => ?_, fun j1 j2 t1 t2 c1 c2 p' q1 q2 e1 e2 => ?_, k.dom⟩
  · rcases set_cases q with ⟨_, e, _⟩ | ⟨hj, q⟩
    · cases e
    · obtain ⟨v', h1, h2⟩ := k.fro j d' q
      exact ⟨v', by rw [List.getElem?_set_ne (Ne.symm hj)]; exact h1, h2⟩
  · rcases set_cases q with ⟨rfl, e, hl⟩ | ⟨hj, q⟩
    · cases e
      have hl' : j < σ.length := by
        have := k.len
        simp only at this
        omega
      exact ⟨p, List.getElem?_set_self hl', hF, ho, ht⟩
    · obtain ⟨p', h1, h2⟩ := k.own j t' c' q
      exact ⟨p', by rw [List.getElem?_set_ne (Ne.symm hj)]; exact h1, h2⟩
  · rcases set_cases q1 with ⟨h1, x1, l1⟩ | ⟨hj1, q1⟩
    · rcases set_cases q2 with ⟨h2, x2, l2⟩ | ⟨hj2, q2⟩
      · rw [h1, h2]
      · exfalso
        have hl' : i < σ.length := by
          have := k.len
          simp only at this
          omega
        rw [h1, List.getElem?_set_self hl'] at e1
        cases e1
        exact key j2 _ _ hj2 q2 e2
    · rcases set_cases q2 with ⟨h2, x2, l2⟩ | ⟨hj2, q2⟩
      · exfalso
        have hl' : i < σ.length := by
          have := k.len
          simp only at this
          omega
        rw [h2, List.getElem?_set_self hl'] at e2
        cases e2
        exact key j1 _ _ hj1 q1 e1
      · rw [List.getElem?_set_ne (Ne.symm hj1)] at e1
        rw [List.getElem?_set_ne (Ne.symm hj2)] at e2
        exact k.dis j1 j2 t1 t2 c1 c2 p' q1 q2 e1 e2
theorem IsOwn.set_own {Γ : Env} {σ : L2.St} {i : Nat} {v : V} {c : Own} {t : Option Nat} {p : Addr} (h : IsOwn (Γ.set i (some (.own t c))) (σ.set i (some v)) p) : IsOwn Γ σ p ∨ v = .ref p := by
  obtain ⟨j, t', c', q, e⟩ := h
  rcases set_cases q with ⟨rfl, e', hl⟩ | ⟨hj, q⟩
  · by_cases hl' : j < σ.length
    · rw [List.getElem?_set_self hl'] at e
      exact .inr (Option.some.inj (Option.some.inj e))
    · rw [List.getElem?_eq_none (by rw [List.length_set]; omega)] at e
      cases e
  · rw [List.getElem?_set_ne (Ne.symm hj)] at e
    exact .inl ⟨j, t', c', q, e⟩
theorem Step.set {s0 : Sx} {F H : Hp} {σ σ' : L2.St} {Γ Γ' : Env} (st : Step s0 ⟨F, H, σ, Γ⟩) (h : ∀ p, IsOwn Γ' σ' p → IsOwn Γ σ p ∨ s0.H p = none) : Step s0 ⟨F, H, σ', Γ'⟩ :=
  ⟨st.same, st.fr, st.th, fun p q => (h p q).elim (st.ow p) .inr, st.fh⟩
/-- a value goes into a slot -/
theorem set_rv {s0 : Sx} {F H : Hp} {σ : L2.St} {Γ : Env} {i : Nat} {v : V} {r : RV} (k : Ok B ⟨F, H, σ, Γ⟩) (k0 : ∀ p o, B.H0 p = some o → ∃ o', s0.H p = some o') (st : Step s0 ⟨F, H, σ, Γ⟩) (rv : RVok B s0 ⟨F, H, σ, Γ⟩ v r) :
    Ok B ⟨F, H, σ.set i (some v), Γ.set i (some r.sv)⟩ ∧ Step s0 ⟨F, H, σ.set i (some v), Γ.set i (some r.sv)⟩ := by
  cases r with
  | fro d => exact ⟨k.set_fro rv, st.set fun p q => .inl (IsOwn.set_fro q)⟩
  | nw c =>
    obtain ⟨p, rfl, h2, h3, h4, h5⟩ := rv
    have ht : Tag B p none := by
      show B.H0 p = none
      cases q : B.H0 p with
      | none => rfl
      | some o =>
        obtain ⟨o', q'⟩ := k0 p o q
        rw [h4] at q'
        cases q'
    refine ⟨k.set_own h2 h3 h5 ht, st.set fun p' q => ?_⟩
    rcases IsOwn.set_own q with z | z
    · exact .inl z
    · cases z
      exact .inr h4
end

/-! ### statements by their functions -/
inductive SO where
  | nx (Γ : Env)
  | rt (r : RV) (Γ : Env)
  | bk (Γ : Env)
  | ct (Γ : Env)
  | bad
abbrev SF := Env → SO
def RVr (B : Bx) (s' : Sx) (v : V) : RV → Prop
  | .fro d => Rep B.K s'.F d v
  | .nw c => ∃ p, v = .ref p ∧ s'.F p = none ∧ OwnOk B.K s'.F s'.H p c ∧ B.H0 p = none ∧ ¬ IsOwn s'.Γ s'.σ p
def SPost (B : Bx) (s : Sx) (D : Ends) : SO → Prop
  | .nx Γ' => ∀ σ' F' H', Ok B ⟨F', H', σ', Γ'⟩ → Step s ⟨F', H', σ', Γ'⟩ → D.nx σ' H'
  | .rt r Γ' => ∀ v σ' F' H', Ok B ⟨F', H', σ', Γ'⟩ → Step s ⟨F', H', σ', Γ'⟩ → RVr B ⟨F', H', σ', Γ'⟩ v r → D.rt v H'
  | .bk Γ' => ∀ σ' F' H', Ok B ⟨F', H', σ', Γ'⟩ → Step s ⟨F', H', σ', Γ'⟩ → D.bk σ' H'
  | .ct Γ' => ∀ σ' F' H', Ok B ⟨F', H', σ', Γ'⟩ → Step s ⟨F', H', σ', Γ'⟩ → D.ct σ' H'
  | .bad => False
def toTS (B : Bx) (f : SF) : TS := fun D σ H => ∃ F Γ, Ok B ⟨F, H, σ, Γ⟩ ∧ SPost B ⟨F, H, σ, Γ⟩ D (f Γ)
abbrev SS (B : Bx) (X : Cx) (st : Stmt) (f : SF) : Prop := PS X st (toTS B f)
abbrev SSs (B : Bx) (X : Cx) (st : List Stmt) (f : SF) : Prop := PSs X st (toTS B f)
def seqF (f g : SF) : SF := fun Γ => match f Γ with
  | .nx Γ' => g Γ'
  | .rt r Γ' => .rt r Γ'
  | .bk Γ' => .bk Γ'
  | .ct Γ' => .ct Γ'
  | .bad => .bad
def nxF : SF := fun Γ => .nx Γ
def sof {α : Type} (x : Res α) (f : α → Env → SO) : SO := match x with
  | .ok a Γ => f a Γ
  | .bad => .bad
@[simp] theorem sof_ok {α : Type} (a : α) (Γ : Env) (f : α → Env → SO) : sof (.ok a Γ) f = f a Γ := rfl
@[simp] theorem sof_bad {α : Type} (f : α → Env → SO) : sof .bad f = .bad := rfl
def retF (f : EF) : SF := fun Γ => sof (f Γ) fun r Γ' => .rt r Γ'
/-- return x, x an own new container: it is handed out -/
def retO (i : Nat) : SF := fun Γ => match slotD i Γ with
  | some (.own none c) => .rt (.nw c) (Γ.set i none)
  | some (.fro d) => .rt (.fro d) Γ
  | some (.own (some k) c) => .bad
  | none => .bad
def setF (i : Nat) (f : EF) : SF := fun Γ => sof (f Γ) fun r Γ' => .nx (Γ'.set i (some r.sv))
def dropF (f : EF) : SF := fun Γ => sof (f Γ) fun _ Γ' => .nx Γ'
def ifS (t : TF) (f g : SF) : SF := fun Γ => sof (t Γ) fun b Γ' => if b = true then f Γ' else g Γ'
@[simp] theorem seqF_nx {f g : SF} {Γ Γ' : Env} (h : f Γ = .nx Γ') : seqF f g Γ = g Γ' := by unfold seqF; rw [h]
@[simp] theorem seqF_rt {f g : SF} {Γ Γ' : Env} {r : RV} (h : f Γ = .rt r Γ') : seqF f g Γ = .rt r Γ' := by unfold seqF; rw [h]
section
variable {B : Bx} {X : Cx}
theorem SPost.step {s0 s : Sx} {D : Ends} (st : Step s0 s) : ∀ {o : SO}, SPost B s0 D o → SPost B s D o
  | .nx Γ', h => fun σ' F' H' k st' => h σ' F' H' k (st.trans st')
  | .rt r Γ', h => fun v σ' F' H' k st' rv => h v σ' F' H' k (st.trans st') rv
  | .bk Γ', h => fun σ' F' H' k st' => h σ' F' H' k (st.trans st')
  | .ct Γ', h => fun σ' F' H' k st' => h σ' F' H' k (st.trans st')
  | .bad, h => h
theorem toTS_mk {f : SF} {F H : Hp} {σ : L2.St} {Γ : Env} {D : Ends} (k : Ok B ⟨F, H, σ, Γ⟩) (h : SPost B ⟨F, H, σ, Γ⟩ D (f Γ)) : toTS B f D σ H := ⟨F, Γ, k, h⟩
theorem ss_nil : SSs B X [] nxF := PSs.imp pss_nil fun D σ H ⟨F, Γ, k, h⟩ => h σ F H k (Step.refl _)
theorem ss_cons {st : Stmt} {rest : List Stmt} {f g : SF} (h1 : SS B X st f) (h2 : SSs B X rest g) : SSs B X (st :: rest) (seqF f g) := PSs.imp (pss_cons h1 h2) fun D σ H ⟨F, Γ, k, h⟩ => by
  refine toTS_mk k ?_
  unfold seqF at h
  cases e : f Γ with
  | nx Γ' =>
    rw [e] at h
    exact fun σ' F' H' k' st => toTS_mk k' (h.step st)
  | rt r Γ' =>
    rw [e] at h
    exact h
  | bk Γ' =>
    rw [e] at h
    exact h
  | ct Γ' =>
    rw [e] at h
    exact h
  | bad =>
    rw [e] at h
    exact h
theorem ss_one {st : Stmt} {f : SF} (h1 : SS B X st f) : SSs B X [st] f := pss_one h1
theorem sof_cases {α : Type} {x : Res α} {g : α → Env → SO} {s : Sx} {D : Ends} (h : SPost B s D (sof x g)) : ∃ a Γ', x = .ok a Γ' ∧ SPost B s D (g a Γ') := by
  cases x with
  | ok a Γ' => exact ⟨a, Γ', rfl, h⟩
  | bad => exact h.elim
theorem s_pass {pos : Pos} : SS B X (.Pass pos) nxF := PS.imp ps_pass fun D σ H ⟨F, Γ, k, h⟩ => h σ F H k (Step.refl _)
theorem s_break {pos : Pos} : SS B X (.Break pos) .bk := PS.imp ps_break fun D σ H ⟨F, Γ, k, h⟩ => h σ F H k (Step.refl _)
theorem s_cont {pos : Pos} : SS B X (.Continue pos) .ct := PS.imp ps_continue fun D σ H ⟨F, Γ, k, h⟩ => h σ F H k (Step.refl _)
theorem s_never {st : Stmt} : SS B X st (fun _ => .bad) := PS.imp ps_never fun D σ H ⟨F, Γ, k, h⟩ => h
theorem RVok.r {s s' : Sx} {v : V} {r : RV} (k : ∀ p o, B.H0 p = some o → ∃ o', s.H p = some o') (h : RVok B s s' v r) : RVr B s' v r := by
  cases r with
  | fro d => exact h
  | nw c =>
    obtain ⟨p, h1, h2, h3, h4, h5⟩ := h
    refine ⟨p, h1, h2, h3, ?_, h5⟩
    cases q : B.H0 p with
    | none => rfl
    | some o =>
      obtain ⟨o', q'⟩ := k p o q
      rw [h4] at q'
      cases q'
theorem s_ret {e : Expr} {f : EF} {pos : Pos} (he : EE B X e f) : SS B X (.Return (some e) pos) (retF f) := PS.imp (ps_ret he) fun D σ H ⟨F, Γ, k, h⟩ => by
  obtain ⟨r, Γ', e1, h⟩ := sof_cases h
  exact toTE_mk k e1 fun v F' H' k' st rv => h v σ F' H' k' st (rv.r k.dom)
theorem s_retN {pos : Pos} : SS B X (.Return none pos) (retF (cF .none)) := PS.imp ps_retN fun D σ H ⟨F, Γ, k, h⟩ => by
  obtain ⟨r, Γ', e1, h⟩ := sof_cases h
  cases e1
  exact h .non σ F H k (Step.refl _) (rvg_non (H' := H) (H := H))
theorem s_retO (i : Nat) {x : Str} {p pos : Pos} (hN : X.N[i]? = some x := by rfl) (hv : Vis X.env.scope x := by first | exact Or.inl rfl | exact Or.inr (Or.inl rfl) | exact Or.inr (Or.inr rfl)) (hd : (x == ("__debug__" : Str)) = false := by decide)
    (hcd : (x == ("__classdict__" : Str)) = false := by decide) : SS B X (.Return (some (.Name x p)) pos) (retO i) := PS.imp (ps_ret (pe_var hN hv hd hcd)) fun D σ H ⟨F, Γ, k, h⟩ => by
  unfold retO at h
  split at h
  · rename_i c es
    have ei := of_slotD es
    obtain ⟨p, h1, h2, h3, h4⟩ := k.own i none c ei
    refine ⟨_, h1, h _ (σ.set i none) F H (k.drop i none) ⟨Same.refl _, fun _ _ h _ => h, fun _ o h => ⟨o, h⟩, fun p q => .inl (IsOwn.drop q), fun _ _ h => .inl h⟩ ⟨p, rfl, h2, h3, h4, ?_⟩⟩
    rintro ⟨j, t, c', q, e⟩
    rcases set_cases q with ⟨_, e', _⟩ | ⟨hj, q⟩
    · cases e'
    · rw [List.getElem?_set_ne (Ne.symm hj)] at e
      exact hj (k.dis j i t none c' c p q ei e h1)
  · rename_i d es
    have ei := of_slotD es
    obtain ⟨v, h1, h2⟩ := k.fro i d ei
    exact ⟨v, h1, h v σ F H k (Step.refl _) h2⟩
  · exact h.elim
  · exact h.elim
theorem s_set (i : Nat) {x : Str} {e : Expr} {f : EF} {pos pos' : Pos} (hN : X.N.Nodup) (he : EE B X e f) (hi : X.N[i]? = some x := by rfl) (hx : Loc X.env.scope x := by first | exact Or.inl rfl | exact Or.inr rfl) (hs : swapsWith e (some (.Name x pos')) pos.line X.env = pure false := by rfl)
    (hf : X.fn x = true ∨ X.env.scope.names.lookup x = some .local := by first | exact .inl rfl | exact .inr rfl | assumption) : SS B X (.Assign [.Name x pos'] e pos) (setF i f) := PS.imp (ps_set hN hi hx he hs hf) fun D σ H ⟨F, Γ, k, h⟩ => by
  obtain ⟨r, Γ', e1, h⟩ := sof_cases h
  refine toTE_mk k e1 fun v F' H' k' st rv => ?_
  obtain ⟨k2, st2⟩ := set_rv (i := i) k' k.dom st rv
  exact h _ F' H' k2 st2
theorem s_expr {e : Expr} {f : EF} {pos : Pos} (he : EE B X e f) (hs : swapsWith e none pos.line X.env = pure false := by rfl) : SS B X (.Expr e pos) (dropF f) := PS.imp (ps_expr he hs) fun D σ H ⟨F, Γ, k, h⟩ => by
  obtain ⟨r, Γ', e1, h⟩ := sof_cases h
  exact toTE_mk k e1 fun v F' H' k' st rv => h σ F' H' k' st
theorem s_if {c : Expr} {a b : List Stmt} {t : TF} {f g : SF} {pos : Pos} (hc : ET B X c t) (ha : SSs B X a f) (hb : SSs B X b g) : SS B X (.If c a b pos) (ifS t f g) := PS.imp (ps_if hc ha hb) fun D σ H ⟨F, Γ, k, h⟩ => by
  obtain ⟨b, Γ', e1, h⟩ := sof_cases h
  refine ⟨F, Γ, b, Γ', k, e1, fun F' H' k' st => ?_⟩
  cases b with
  | true => exact toTS_mk k' (h.step st)
  | false => exact toTS_mk k' (h.step st)
end

/-! ### several values at once -/
def evalRs : List EF → Env → Res (List RV)
  | [], Γ => .ok [] Γ
  | f :: fs, Γ => (f Γ).bind fun r Γ1 => (evalRs fs Γ1).bind fun rs Γ2 => .ok (r :: rs) Γ2
def RVoks (B : Bx) (s s' : Sx) : List V → List RV → Prop
  | [], rs => rs = []
  | v :: vs, rs => ∃ r rs', rs = r :: rs' ∧ RVok B s s' v r ∧ RVoks B s s' vs rs' ∧ (∀ c, r = .nw c → ∀ p, v = .ref p → ∀ (j : Nat) c', rs'[j]? = some (.nw c') → vs[j]? ≠ some (.ref p))
section
variable {B : Bx} {X : Cx}
theorem RVoks.step {s0 s s' : Sx} (st : Step s0 s) : ∀ {vs : List V} {rs : List RV}, RVoks B s s' vs rs → RVoks B s0 s' vs rs
  | [], rs, h => h
  | v :: vs, rs, h => by
    obtain ⟨r, rs', e, h1, h2, h3⟩ := h
    exact ⟨r, rs', e, h1.step st, RVoks.step st h2, h3⟩
theorem RVok.later {s s1 s2 : Sx} {v : V} {r : RV} (h : RVok B s s1 v r) (st : Step s1 s2) (k2 : Ok B s2) : RVok B s s2 v r := by
  cases r with
  | fro d => exact Rep.same st.same h
  | nw c =>
    obtain ⟨p, rfl, h2, h3, h4, h5⟩ := h
    obtain ⟨o, ho, hm⟩ := h3.there
    have k : ∀ o, s1.H p = some o → s2.H p = some o := fun o q => st.fr p o q h5
    refine ⟨p, rfl, ?_, h3.keep st.same k, h4, fun q => ?_⟩
    · cases q : s2.F p with
      | none => rfl
      | some x =>
        exfalso
        rcases st.fh p x q with z | z | z | z
        · rw [h2] at z
          cases z
        · exact h5 z
        · rw [ho] at z
          cases z
        · exact z (k2.ext.immut q (k o ho) hm)
    · rcases st.ow p q with z | z
      · exact h5 z
      · rw [ho] at z
        cases z
theorem nw_fresh {s s' : Sx} : ∀ {vs : List V} {rs : List RV}, RVoks B s s' vs rs → ∀ (j : Nat) c p, rs[j]? = some (.nw c) → vs[j]? = some (.ref p) → s.H p = none
  | [], rs, h, j, c, p, e1, e2 => by
    have h' : rs = [] := h
    subst h'
    simp at e1
  | v :: vs, rs, h, 0, c, p, e1, e2 => by
    obtain ⟨r, rs', rfl, h1, h2, h3⟩ := h
    have e1' : r = .nw c := Option.some.inj e1
    have e2' : v = .ref p := Option.some.inj e2
    subst e1' e2'
    obtain ⟨p', e, _, _, h4, _⟩ := h1
    cases e
    exact h4
  | v :: vs, rs, h, j + 1, c, p, e1, e2 => by
    obtain ⟨r, rs', rfl, h1, h2, h3⟩ := h
    exact nw_fresh h2 j c p (by simpa using e1) (by simpa using e2)
theorem rs_run : ∀ {fs : List EF} {F H : Hp} {σ : L2.St} {Γ Γ' : Env} {rs : List RV} {Q : List V → Hp → Prop}, Ok B ⟨F, H, σ, Γ⟩ → evalRs fs Γ = .ok rs Γ' →
    (∀ vs F' H', Ok B ⟨F', H', σ, Γ'⟩ → Step ⟨F, H, σ, Γ⟩ ⟨F', H', σ, Γ'⟩ → RVoks B ⟨F, H, σ, Γ⟩ ⟨F', H', σ, Γ'⟩ vs rs → Q vs H') → toTAa B (fs.map .e) σ H Q
  | [], F, H, σ, Γ, Γ', rs, Q, k, e, h => by
    cases e
    exact h [] F H k (Step.refl _) rfl
  | f :: fs, F, H, σ, Γ, Γ', rs, Q, k, e, h => by
    obtain ⟨r, Γ1, e1, w1⟩ := Res.of_bind (show (f Γ).bind _ = _ from e)
    obtain ⟨rs1, Γ2, e2, w2⟩ := Res.of_bind w1
    cases w2
    refine toTE_mk k e1 fun v F1 H1 k1 st1 r1 => ?_
    refine rs_run k1 e2 fun vs F2 H2 k2 st2 r2 => ?_
    refine h (v :: vs) F2 H2 k2 (st1.trans st2) ⟨r, rs1, rfl, r1.later st2 k2, r2.step st1, fun c hc p hp j c' e3 e4 => ?_⟩
    subst hc hp
    obtain ⟨p', e, _, h3, _, _⟩ := r1
    cases e
    obtain ⟨o, ho, _⟩ := h3.there
    have hf := nw_fresh r2 j c' p e3 e4
    have ho' : H1 p = some o := ho
    have hf' : H1 p = none := hf
    rw [hf'] at ho'
    cases ho'
/-- a, b = x, y -/
def parF (i j : Nat) (f g : EF) : SF := fun Γ => sof (f Γ) fun r Γ1 => sof (g Γ1) fun r' Γ2 => .nx ((Γ2.set i (some r.sv)).set j (some r'.sv))
theorem RVok.after_set {s0 : Sx} {F H : Hp} {σ : L2.St} {Γ : Env} {i : Nat} {v w : V} {r r' : RV} (h : RVok B s0 ⟨F, H, σ, Γ⟩ w r') (hd : ∀ c p, r = .nw c → v = .ref p → ∀ c', r' = .nw c' → w ≠ .ref p) : RVok B s0 ⟨F, H, σ.set i (some v), Γ.set i (some r.sv)⟩ w r' := by
  cases r' with
  | fro d => exact h
  | nw c' =>
    obtain ⟨p, rfl, h2, h3, h4, h5⟩ := h
    refine ⟨p, rfl, h2, h3, h4, fun q => ?_⟩
    cases r with
    | fro d => exact h5 (IsOwn.set_fro q)
    | nw c =>
      rcases IsOwn.set_own q with z | z
      · exact h5 z
      · exact hd c p rfl z c' rfl rfl
theorem s_par (i j : Nat) {x y : Str} {a b : Expr} {f g : EF} {px py pt : Pos} {kt k2 pt2} {pos : Pos} (hN : X.N.Nodup) (ha : EE B X a f) (hb : EE B X b g) (hc : X.calm = true := by rfl) (hi : X.N[i]? = some x := by rfl) (hj : X.N[j]? = some y := by rfl) (hij : i ≠ j := by decide)
    (hx : X.env.scope.names.lookup x = some .local := by rfl) (hy : X.env.scope.names.lookup y = some .local := by rfl)
    (hw : swappedStores [.Tuple [.Name x px, .Name y py] kt pt] (.Tuple [a, b] k2 pt2) X.env = pure (some [x, y]) := by rfl)
    (hs : swapsWithSole [.Tuple [.Name x px, .Name y py] kt pt] (.Tuple [a, b] k2 pt2) pos.line X.env = pure false := by rfl) (h1 : starEach [a, b] X.env = (false, eval a X.env) :: starEach [b] X.env := by rfl) (h2 : starEach [b] X.env = (false, eval b X.env) :: starEach [] X.env := by rfl) :
    SS B X (.Assign [.Tuple [.Name x px, .Name y py] kt pt] (.Tuple [a, b] k2 pt2) pos) (parF i j f g) :=
  PS.imp (ps_par hc hN hi hj hij hx hy (efs_cons ha (efs_cons hb efs_nil h2) h1) hw hs) fun D σ H ⟨F, Γ, k, h⟩ => by
    obtain ⟨r, Γ1, e1, w1⟩ := sof_cases h
    obtain ⟨r', Γ2, e2, w2⟩ := sof_cases w1
    refine rs_run (fs := [f, g]) (rs := [r, r']) (Γ' := Γ2) k (by unfold evalRs; rw [e1]; simp only [Res.bind_ok]; unfold evalRs; rw [e2]; simp [evalRs]) fun vs F' H' k' st rv => ?_
    cases vs with
    | nil => cases (show [r, r'] = [] from rv)
    | cons v vs =>
      obtain ⟨r0, rs0, e0, q1, q2, q3⟩ := rv
      cases e0
      cases vs with
      | nil => cases (show [r'] = [] from q2)
      | cons w vs =>
        obtain ⟨r0, rs0, e0, q4, q5, q6⟩ := q2
        cases e0
        cases vs with
        | cons _ _ =>
          obtain ⟨_, _, e0, _⟩ := q5
          cases e0
        | nil =>
          refine ⟨v, w, rfl, ?_⟩
          obtain ⟨k3, st3⟩ := set_rv (i := i) k' k.dom st q1
          have q4' : RVok B ⟨F, H, σ, Γ⟩ ⟨F', H', σ.set i (some v), Γ2.set i (some r.sv)⟩ w r' := q4.after_set fun c p ec ep c' ec' ew => by
            refine q3 c ec p ep 0 c' ?_ ?_
            · rw [ec']
              rfl
            · rw [ew]
              rfl
          obtain ⟨k4, st4⟩ := set_rv (i := j) k3 k.dom st3 q4'
          exact w2 _ F' H' k4 st4
end
end PD
end

section
set_option maxHeartbeats 4000000
/-! PD7: targets, loops. -/
namespace PD
open PySem PySem.Spec PyProof.Rows L2

/-! ### targets -/
abbrev GF := PyData → Env → Option Env
def toTG (B : Bx) (g : GF) : TG := fun v σ H Q => ∃ F Γ d Γ', Ok B ⟨F, H, σ, Γ⟩ ∧ Rep B.K F d v ∧ g d Γ = some Γ' ∧ ∀ σ' F' H', Ok B ⟨F', H', σ', Γ'⟩ → Step ⟨F, H, σ, Γ⟩ ⟨F', H', σ', Γ'⟩ → Q σ' H'
abbrev GFs := List PyData → Env → Option Env
def toTGs (B : Bx) (g : GFs) : TGs := fun vs σ H Q => ∃ F Γ ds Γ', Ok B ⟨F, H, σ, Γ⟩ ∧ RepL B.K F ds vs ∧ g ds Γ = some Γ' ∧ ∀ σ' F' H', Ok B ⟨F', H', σ', Γ'⟩ → Step ⟨F, H, σ, Γ⟩ ⟨F', H', σ', Γ'⟩ → Q σ' H'
abbrev GG (B : Bx) (X : Cx) (t : Expr) (g : GF) : Prop := PG X t (toTG B g)
abbrev GGs (B : Bx) (X : Cx) (t : List Expr) (g : GFs) : Prop := PGs X t (toTGs B g)
theorem PG.imp {X : Cx} {e : Expr} {t t' : TG} (h : PG X e t) (i : ∀ v σ H Q, t' v σ H Q → t v σ H Q) : PG X e t' := ⟨fun pins s σ H v u Q I r q => h.run pins s σ H v u Q I r (i v σ H Q q)⟩
theorem PGs.imp {X : Cx} {e : List Expr} {t t' : TGs} (h : PGs X e t) (i : ∀ v σ H Q, t' v σ H Q → t v σ H Q) : PGs X e t' := ⟨fun pins s σ H v u Q I r q => h.run pins s σ H v u Q I r (i v σ H Q q)⟩
def nameG (i : Nat) : GF := fun d Γ => some (Γ.set i (some (.fro d)))
def nilG : GFs := fun ds Γ => match ds with
  | [] => some Γ
  | _ => none
def consG (g : GF) (gs : GFs) : GFs := fun ds Γ => match ds with
  | d :: ds => (g d Γ).bind fun Γ' => gs ds Γ'
  | [] => none
def tupG (n : Nat) (gs : GFs) : GF := fun d Γ => match d with
  | .tuple ds => if ds.length = n then gs ds Γ else none
  | _ => none
section
variable {B : Bx} {X : Cx}
theorem g_name (i : Nat) {x : Str} {pos : Pos} (hN : X.N.Nodup) (hi : X.N[i]? = some x := by rfl) (hx : Loc X.env.scope x := by first | exact Or.inl rfl | exact Or.inr rfl) (hf : X.fn x = true ∨ X.env.scope.names.lookup x = some .local := by first | exact .inl rfl | exact .inr rfl | assumption) : GG B X (.Name x pos) (nameG i) :=
  PG.imp (pg_name hN hi hx hf) fun v σ H Q ⟨F, Γ, d, Γ', k, r, e, q⟩ => by
    cases e
    exact q _ F H (k.set_fro r) ((Step.refl _).set fun p z => .inl (IsOwn.set_fro z))
theorem gs_nil : GGs B X [] nilG := PGs.imp pgs_nil fun vs σ H Q ⟨F, Γ, ds, Γ', k, r, e, q⟩ => by
  cases ds with
  | nil =>
    cases e
    exact ⟨r, q σ F H k (Step.refl _)⟩
  | cons d ds => cases e
theorem gs_cons {e : Expr} {es : List Expr} {g : GF} {gs : GFs} (h1 : GG B X e g) (h2 : GGs B X es gs) (hs : (assignEach (e :: es) X.env).map (·.2) = assign e X.env :: (assignEach es X.env).map (·.2) := by rfl) : GGs B X (e :: es) (consG g gs) :=
  PGs.imp (pgs_cons h1 h2 hs) fun vs σ H Q ⟨F, Γ, ds, Γ', k, r, e, q⟩ => by
    cases ds with
    | nil => cases e
    | cons d ds =>
      obtain ⟨Γ1, e1, e2⟩ := Option.bind_eq_some_iff.mp e
      obtain ⟨v, vr, rfl, r1, r2⟩ := r
      exact ⟨v, vr, rfl, F, Γ, d, Γ1, k, r1, e1, fun σ1 F1 H1 k1 st1 => ⟨F1, Γ1, ds, Γ', k1, r2.same st1.same, e2, fun σ2 F2 H2 k2 st2 => q σ2 F2 H2 k2 (st1.trans st2)⟩⟩
theorem g_tup {es : List Expr} {kk : Nat} {gs : GFs} {n : Nat} {pos : Pos} (hK : X.K = B.K) (h : GGs B X es gs) (hc : X.calm = true := by rfl) (hn : (assignEach es X.env).length = n := by rfl) (hst : (assignEach es X.env).findIdx? (·.1) = none := by rfl) : GG B X (.Tuple es kk pos) (tupG n gs) :=
  PG.imp (pg_tup hc h hn hst) fun v σ H Q ⟨F, Γ, d, Γ', k, r, e, q⟩ => by
    cases d with
    | tuple ds =>
      unfold tupG at e
      simp only at e
      split at e
      · rename_i hl
        obtain ⟨a, vs, rfl, s1, r1⟩ := r
        exact ⟨a, vs, rfl, by rw [hK]; exact k.ext.seqT s1.sq, by rw [r1.length]; exact hl, F, Γ, ds, Γ', k, r1, e, q⟩
      · cases e
    | _ => cases e
/-- a, b = e -/
def unpF (f : EF) (g : GF) : SF := fun Γ => sof (f Γ) fun r Γ' => match g r.toD Γ' with
  | some Γ2 => .nx Γ2
  | none => .bad
theorem s_asg {tg e : Expr} {f : EF} {g : GF} {pos : Pos} (he : EE B X e f) (hg : GG B X tg g) (hs : swapsWithSole [tg] e pos.line X.env = pure false := by rfl) (hw : swappedStores [tg] e X.env = pure none := by rfl)
    (h1 : (assignEach [tg] X.env).map (·.2) = [assign tg X.env] := by rfl) : SS B X (.Assign [tg] e pos) (unpF f g) := PS.imp (ps_asg he hg hs hw h1) fun D σ H ⟨F, Γ, k, h⟩ => by
  obtain ⟨r, Γ', e1, h⟩ := sof_cases h
  refine toTE_fro k e1 fun v F' H' k' st rp => ?_
  split at h
  · rename_i Γ2 e2
    exact ⟨F', Γ', _, Γ2, k', rp, e2, fun σ2 F2 H2 k2 st2 => h σ2 F2 H2 k2 (st.trans st2)⟩
  · exact h.elim

/-! ### what is walked -/
structure IterOk (B : Bx) (J : It) (items : List PyData) (inv : Hp → Hp → Prop) : Prop where
  stable : ∀ s s', Ok B s → Step s s' → Ok B s' → inv s.F s.H → inv s'.F s'.H
  goes : ∀ i F H, i < items.length → Ext F H → inv F H → J.go i H
  stops : ∀ F H, Ext F H → inv F H → J.stop items.length H
  yields : ∀ (i : Nat) F H x H' d, items[i]? = some d → Ext F H → inv F H → J.yld i H x H' → ∃ F', Grow F H F' H' ∧ Rep B.K F' d x
def toTI (B : Bx) (f : Env → Res (List PyData)) : TI := fun σ H R => ∃ F Γ items Γ', Ok B ⟨F, H, σ, Γ⟩ ∧ f Γ = .ok items Γ' ∧
  ∀ J F' H' inv, Ok B ⟨F', H', σ, Γ'⟩ → Step ⟨F, H, σ, Γ⟩ ⟨F', H', σ, Γ'⟩ → IterOk B J items inv → inv F' H' → R J H'
abbrev IF := Env → Res (List PyData)
abbrev II (B : Bx) (X : Cx) (tg iter : Expr) (f : IF) : Prop := PI X tg iter (toTI B f)
theorem PI.imp {X : Cx} {tg e : Expr} {t t' : TI} (h : PI X tg e t) (i : ∀ σ H R, t' σ H R → t σ H R) : PI X tg e t' := ⟨fun pins s σ H R I q => h.run pins s σ H R I (i σ H R q)⟩
def asSeq : RV → Env → Res (List PyData)
  | .fro (.list ds), Γ => .ok ds Γ
  | .nw (.lst ds), Γ => .ok ds Γ
  | _, _ => .bad
def asTup : RV → Env → Res (List PyData)
  | .fro (.tuple ds), Γ => .ok ds Γ
  | _, _ => .bad
@[simp] theorem asSeq_fro (ds : List PyData) (Γ : Env) : asSeq (.fro (.list ds)) Γ = .ok ds Γ := rfl
@[simp] theorem asSeq_nw (ds : List PyData) (Γ : Env) : asSeq (.nw (.lst ds)) Γ = .ok ds Γ := rfl
@[simp] theorem asTup_fro (ds : List PyData) (Γ : Env) : asTup (.fro (.tuple ds)) Γ = .ok ds Γ := rfl
theorem of_asSeq {r : RV} {Γ Γ' : Env} {ds : List PyData} (h : asSeq r Γ = .ok ds Γ') : r.toD = .list ds ∧ Γ' = Γ := by
  unfold asSeq at h
  split at h
  · cases h
    exact ⟨rfl, rfl⟩
  · cases h
    exact ⟨rfl, rfl⟩
  · cases h
theorem of_asTup {r : RV} {Γ Γ' : Env} {ds : List PyData} (h : asTup r Γ = .ok ds Γ') : r.toD = .tuple ds ∧ Γ' = Γ := by
  unfold asTup at h
  split at h
  · cases h
    exact ⟨rfl, rfl⟩
  · cases h
def listI (f : EF) : IF := fun Γ => (f Γ).bind asSeq
def tupI (f : EF) : IF := fun Γ => (f Γ).bind asTup
theorem ii_list {tg e : Expr} {f : EF} (hK : X.K = B.K) (he : EE B X e f) : II B X tg e (listI f) := PI.imp (pi_list he) fun σ H R ⟨F, Γ, items, Γ', k, e, q⟩ => by
  obtain ⟨r, Γ1, e1, e2⟩ := Res.of_bind e
  obtain ⟨hr, rfl⟩ := of_asSeq e2
  rw [hK]
  refine toTE_fro k e1 fun v F1 H1 k1 st1 rp => ?_
  rw [hr] at rp
  obtain ⟨a, vs, rfl, s0, r1⟩ := rp
  have s1 : SqL B.K F1 a vs := s0.sq
  refine ⟨a, rfl, ⟨vs, k1.ext.seqL s1⟩, q _ F1 H1 (fun F _ => SqL B.K F a vs ∧ RepL B.K F items vs) k1 st1 ⟨fun s s' _ st _ h => ⟨st.same.seq h.1, h.2.same st.same⟩, fun i F H hi e h => ?_, fun F H e h => ?_, fun i F H x H' d hd e h y => ?_⟩ ⟨s1, r1⟩⟩
  · exact walk_list.goes i H (by rw [h.2.length]; exact hi) (e.seqL h.1)
  · rw [← h.2.length]
    exact walk_list.stops H (e.seqL h.1)
  · have hi : i < vs.length := by
      rw [h.2.length]
      exact (List.getElem?_eq_some_iff.mp hd).1
    obtain ⟨rfl, hx⟩ := walk_list.yields i H x H' hi (e.seqL h.1) y
    obtain ⟨w, hw, rw1⟩ := h.2.get hd
    rw [hx] at hw
    cases hw
    exact ⟨F, Grow.refl e, rw1⟩
theorem ii_tup {tg e : Expr} {f : EF} (hK : X.K = B.K) (he : EE B X e f) : II B X tg e (tupI f) := PI.imp (pi_tup he) fun σ H R ⟨F, Γ, items, Γ', k, e, q⟩ => by
  obtain ⟨r, Γ1, e1, e2⟩ := Res.of_bind e
  obtain ⟨hr, rfl⟩ := of_asTup e2
  rw [hK]
  refine toTE_fro k e1 fun v F1 H1 k1 st1 rp => ?_
  rw [hr] at rp
  obtain ⟨a, vs, rfl, s1, r1⟩ := rp
  refine ⟨a, rfl, ⟨vs, k1.ext.seqT s1.sq⟩, q _ F1 H1 (fun F _ => SqT B.K F a vs ∧ RepL B.K F items vs) k1 st1 ⟨fun s s' _ st _ h => ⟨(Same.ext st.same).seqT h.1, h.2.same st.same⟩, fun i F H hi e h => ?_, fun F H e h => ?_, fun i F H x H' d hd e h y => ?_⟩ ⟨s1.sq, r1⟩⟩
  · exact walk_tup.goes i H (by rw [h.2.length]; exact hi) (e.seqT h.1)
  · rw [← h.2.length]
    exact walk_tup.stops H (e.seqT h.1)
  · have hi : i < vs.length := by
      rw [h.2.length]
      exact (List.getElem?_eq_some_iff.mp hd).1
    obtain ⟨rfl, hx⟩ := walk_tup.yields i H x H' hi (e.seqT h.1) y
    obtain ⟨w, hw, rw1⟩ := h.2.get hd
    rw [hx] at hw
    cases hw
    exact ⟨F, Grow.refl e, rw1⟩
/-- lo, lo + 1, .. -/
def rangeD (lo : Int) (n : Nat) : List PyData := (List.range n).map fun i => .int (lo + (i : Nat))
theorem rangeD_get {lo : Int} {n i : Nat} {d : PyData} (h : (rangeD lo n)[i]? = some d) : i < n ∧ d = .int (lo + (i : Nat)) := by
  have hi : i < n := by
    have := (List.getElem?_eq_some_iff.mp h).1
    unfold rangeD at this
    simpa using this
  unfold rangeD at h
  rw [List.getElem?_map, List.getElem?_range hi] at h
  cases h
  exact ⟨hi, rfl⟩
theorem rangeD_length (lo : Int) (n : Nat) : (rangeD lo n).length = n := by
  unfold rangeD
  simp
theorem iter_range {lo : Int} {n : Nat} : IterOk B (Itr lo n) (rangeD lo n) (fun _ _ => True) := by
  refine ⟨fun _ _ _ _ _ _ => trivial, fun i F H hi e _ => ?_, fun F H e _ => ?_, fun i F H x H' d hd e _ y => ?_⟩
  · rw [rangeD_length] at hi
    exact hi
  · rw [rangeD_length]
    exact Nat.le_refl _
  · obtain ⟨hi, rfl⟩ := rangeD_get hd
    obtain ⟨rfl, rfl⟩ := y
    exact ⟨F, Grow.refl e, by unfold Rep; rfl⟩
def asInt : PyData → Option Int
  | .int i => some i
  | _ => none
def small62 (i : Int) : Bool := Nat.ble (i.natAbs + 1) 4611686018427387904
def range1I (f : EF) : IF := fun Γ => (f Γ).bind fun r Γ' => (ofOpt (asInt r.toD) Γ').bind fun j Γ' => if small62 j = true then .ok (rangeD 0 j.toNat) Γ' else .bad
def range2I (f g : EF) : IF := fun Γ => (f Γ).bind fun r Γ1 => (g Γ1).bind fun r' Γ' => (ofOpt (asInt r.toD) Γ').bind fun i Γ' => (ofOpt (asInt r'.toD) Γ').bind fun j Γ' => if small62 i && small62 j then .ok (rangeD i (j - i).toNat) Γ' else .bad
theorem asInt_some {d : PyData} {i : Int} (h : asInt d = some i) : d = .int i := by
  cases d <;> cases h
  rfl
theorem small62_ok {i : Int} (h : small62 i = true) : -(2 ^ 62) ≤ i ∧ i < 2 ^ 62 := by
  have h' : i.natAbs + 1 ≤ 4611686018427387904 := Nat.le_of_ble_eq_true h
  omega
theorem ii_range1 {tg a : Expr} {f : EF} {p pos : Pos} (hg : Gl X "range") (hm : X.mg "range" = none) (ha : EE B X a f) (hs : starEach [a] X.env = [(false, eval a X.env)] := by rfl) (h2 : starEach [a] X.env = (false, eval a X.env) :: starEach [] X.env := by rfl) : II B X tg (.Call (.Name "range" p) [a] [] pos) (range1I f) :=
  PI.imp (pi_range1 hg hm (efs_cons ha efs_nil h2) hs) fun σ H R ⟨F, Γ, items, Γ', k, e, q⟩ => by
    obtain ⟨r, Γ1, e1, w1⟩ := Res.of_bind e
    obtain ⟨j, Γ2, e2', w2⟩ := Res.of_bind w1
    obtain ⟨e2, rfl⟩ := of_ofOpt e2'
    split at w2
    · rename_i hj
      cases w2
      refine fs_run (fs := [f]) (ds := [r.toD]) (Γ' := Γ') k (by unfold evalFs; rw [e1]; simp [evalFs]) fun vs F1 H1 k1 st1 rp => ?_
      obtain ⟨v, vr, rfl, r1, r2⟩ := rp
      rw [asInt_some e2] at r1
      unfold Rep at r1
      have h0 : vr = [] := r2
      subst r1 h0
      exact ⟨j, rfl, (small62_ok hj).1, (small62_ok hj).2, q _ F1 H1 _ k1 st1 iter_range trivial⟩
    · cases w2
theorem ii_range2 {tg a b : Expr} {f g : EF} {p pos : Pos} (hg : Gl X "range") (hm : X.mg "range" = none) (ha : EE B X a f) (hb : EE B X b g) (hs : starEach [a, b] X.env = [(false, eval a X.env), (false, eval b X.env)] := by rfl) (hs2 : starEach [b] X.env = [(false, eval b X.env)] := by rfl)
    (h1 : starEach [a, b] X.env = (false, eval a X.env) :: starEach [b] X.env := by rfl) (h2 : starEach [b] X.env = (false, eval b X.env) :: starEach [] X.env := by rfl) : II B X tg (.Call (.Name "range" p) [a, b] [] pos) (range2I f g) :=
  PI.imp (pi_range2 hg hm (efs_cons ha (efs_cons hb efs_nil h2) h1) hs hs2) fun σ H R ⟨F, Γ, items, Γ', k, e, q⟩ => by
    obtain ⟨r, Γ1, e1, w1⟩ := Res.of_bind e
    obtain ⟨r', Γ2, e2, w2⟩ := Res.of_bind w1
    obtain ⟨i, Γ3, e3', w3⟩ := Res.of_bind w2
    obtain ⟨e3, rfl⟩ := of_ofOpt e3'
    obtain ⟨j, Γ4, e4', w4⟩ := Res.of_bind w3
    obtain ⟨e4, rfl⟩ := of_ofOpt e4'
    split at w4
    · rename_i hj
      cases w4
      rw [Bool.and_eq_true] at hj
      refine fs_run (fs := [f, g]) (ds := [r.toD, r'.toD]) (Γ' := Γ') k (by unfold evalFs; rw [e1]; simp only [Res.bind_ok]; unfold evalFs; rw [e2]; simp [evalFs]) fun vs F1 H1 k1 st1 rp => ?_
      obtain ⟨v, vr, rfl, r1, v2, vr2, rfl, r2, r3⟩ := rp
      rw [asInt_some e3] at r1
      rw [asInt_some e4] at r2
      unfold Rep at r1 r2
      have h0 : vr2 = [] := r3
      subst r1 r2 h0
      exact ⟨i, j, rfl, ⟨(small62_ok hj.1).1, (small62_ok hj.1).2, (small62_ok hj.2).1, (small62_ok hj.2).2⟩, q _ F1 H1 _ k1 st1 iter_range trivial⟩
    · cases w4

/-! ### for -/
def loopF (g : GF) (body : SF) : List PyData → Env → SO
  | [], Γ => .nx Γ
  | d :: ds, Γ => match g d Γ with
    | none => .bad
    | some Γ1 => match body Γ1 with
      | .nx Γ2 => loopF g body ds Γ2
      | .ct Γ2 => loopF g body ds Γ2
      | .bk Γ2 => .nx Γ2
      | .rt r Γ2 => .rt r Γ2
      | .bad => .bad
def forF (it : IF) (g : GF) (body : SF) : SF := fun Γ => sof (it Γ) fun items Γ' => loopF g body items Γ'
theorem SPost.rt_mono {s : Sx} {D D' : Ends} {o : SO} (hn : D.nx = D'.nx) (hr : D.rt = D'.rt) (hb : D.bk = D'.bk) (hc : D.ct = D'.ct) (h : SPost B s D o) : SPost B s D' o := by
  cases o with
  | nx Γ => exact fun σ' F' H' k st => hn ▸ h σ' F' H' k st
  | rt r Γ => exact fun v σ' F' H' k st rv => hr ▸ h v σ' F' H' k st rv
  | bk Γ => exact fun σ' F' H' k st => hb ▸ h σ' F' H' k st
  | ct Γ => exact fun σ' F' H' k st => hc ▸ h σ' F' H' k st
  | bad => exact h
theorem for_core {J : It} {items : List PyData} {inv : Hp → Hp → Prop} (T : IterOk B J items inv) {g : GF} {body : SF} {D : Ends} {F H : Hp} {σ : L2.St} {Γ : Env} (k : Ok B ⟨F, H, σ, Γ⟩) (hi : inv F H) (h : SPost B ⟨F, H, σ, Γ⟩ D (loopF g body items Γ)) :
    ∃ W : Nat → Nat → L2.St → Hp → Prop, (∃ m, W 0 m σ H) ∧ ∀ i m σ H, W i m σ H →
      (J.stop i H ∧ D.nx σ H) ∨ (J.go i H ∧ ∃ N : L2.St → Hp → Prop, (∀ σ' H', N σ' H' → ∃ m', m' < m ∧ W (i + 1) m' σ' H') ∧ ∀ x H', J.yld i H x H' → toTG B g x σ H' fun σ2 H2 => toTS B body { D with nx := N, ct := N, bk := D.nx } σ2 H2) := by
  refine ⟨fun i m σ1 H1 => m = items.length - i ∧ i ≤ items.length ∧ ∃ F1 Γ1, Ok B ⟨F1, H1, σ1, Γ1⟩ ∧ inv F1 H1 ∧ SPost B ⟨F1, H1, σ1, Γ1⟩ D (loopF g body (items.drop i) Γ1), ⟨items.length, by simp, Nat.zero_le _, F, Γ, k, hi, h⟩, ?_⟩
  rintro i m σ1 H1 ⟨rfl, hil, F1, Γ1, k1, hi1, h1⟩
  by_cases hlt : i < items.length
  · have hd : items.drop i = items[i] :: items.drop (i + 1) := List.drop_eq_getElem_cons hlt
    rw [hd] at h1
    unfold loopF at h1
    refine .inr ⟨T.goes i F1 H1 hlt k1.ext hi1, fun σ' H' => ∃ F2 Γ2, Ok B ⟨F2, H', σ', Γ2⟩ ∧ inv F2 H' ∧ SPost B ⟨F2, H', σ', Γ2⟩ D (loopF g body (items.drop (i + 1)) Γ2), fun σ' H' ⟨F2, Γ2, a, b, c⟩ => ⟨items.length - (i + 1), by omega, rfl, hlt, F2, Γ2, a, b, c⟩, fun x H2 y => ?_⟩
    obtain ⟨F2, gr, rp⟩ := T.yields i F1 H1 x H2 items[i] (List.getElem?_eq_getElem hlt) k1.ext hi1 y
    obtain ⟨k2, st2⟩ := k1.grow gr
    have hi2 := T.stable _ _ k1 st2 k2 hi1
    cases eg : g items[i] Γ1 with
    | none =>
      rw [eg] at h1
      exact h1.elim
    | some Γ2 =>
      rw [eg] at h1
      simp only at h1
      refine ⟨F2, Γ1, items[i], Γ2, k2, rp, eg, fun σ3 F3 H3 k3 st3 => toTS_mk k3 ?_⟩
      have hi3 := T.stable _ _ k2 st3 k3 hi2
      have st13 := st2.trans st3
      cases eb : body Γ2 with
      | nx Γ4 =>
        rw [eb] at h1
        exact fun σ4 F4 H4 k4 st4 => ⟨F4, Γ4, k4, T.stable _ _ k3 st4 k4 hi3, h1.step (st13.trans st4)⟩
      | ct Γ4 =>
        rw [eb] at h1
        exact fun σ4 F4 H4 k4 st4 => ⟨F4, Γ4, k4, T.stable _ _ k3 st4 k4 hi3, h1.step (st13.trans st4)⟩
      | bk Γ4 =>
        rw [eb] at h1
        exact fun σ4 F4 H4 k4 st4 => h1 σ4 F4 H4 k4 (st13.trans st4)
      | rt r Γ4 =>
        rw [eb] at h1
        exact fun v σ4 F4 H4 k4 st4 rv => h1 v σ4 F4 H4 k4 (st13.trans st4) rv
      | bad =>
        rw [eb] at h1
        exact h1.elim
  · have e : i = items.length := by omega
    subst e
    rw [List.drop_length] at h1
    exact .inl ⟨T.stops F1 H1 k1.ext hi1, h1 σ1 F1 H1 k1 (Step.refl _)⟩
theorem s_for {tg iter : Expr} {body : List Stmt} {it : IF} {g : GF} {b : SF} {pos : Pos} (hp : PassesOwn (model X.prog X.w) X.A X.env X.xe) (hi : II B X tg iter it) (hg : GG B X tg g) (hb : SSs B X body b) (hc : X.calm = true := by rfl)
    (hs : ∀ x, foldedSetIterable iter X.env x = pure x := by intro _; rfl) : SS B X (.For tg iter body [] pos) (forF it g b) := PS.imp (ps_for hp hc hi hg hb hs) fun D σ H ⟨F, Γ, k, h⟩ => by
  obtain ⟨items, Γ', e1, h⟩ := sof_cases h
  exact ⟨F, Γ, items, Γ', k, e1, fun J F' H' inv k' st T hi' => for_core T k' hi' (h.step st)⟩

/-! ### while -/
def whileL (t : TF) (body : SF) : Nat → Env → SO
  | 0, _ => .bad
  | n + 1, Γ => sof (t Γ) fun b Γ1 => if b = true then match body Γ1 with
      | .nx Γ2 => whileL t body n Γ2
      | .ct Γ2 => whileL t body n Γ2
      | .bk Γ2 => .nx Γ2
      | .rt r Γ2 => .rt r Γ2
      | .bad => .bad
    else .nx Γ1
def whileF (n : Nat) (t : TF) (body : SF) : SF := whileL t body n
theorem s_while (n : Nat) {c : Expr} {body : List Stmt} {t : TF} {b : SF} {pos : Pos} (hp : PassesOwn (model X.prog X.w) X.A X.env X.xe) (hc : ET B X c t) (hb : SSs B X body b) : SS B X (.While c body [] pos) (whileF n t b) := PS.imp (ps_while hp hc hb) fun D σ H ⟨F, Γ, k, h⟩ => by
  refine ⟨fun m σ1 H1 => ∃ F1 Γ1, Ok B ⟨F1, H1, σ1, Γ1⟩ ∧ SPost B ⟨F1, H1, σ1, Γ1⟩ D (whileL t b m Γ1), ⟨n, F, Γ, k, h⟩, ?_⟩
  rintro m σ1 H1 ⟨F1, Γ1, k1, h1⟩
  cases m with
  | zero => exact h1.elim
  | succ m =>
    unfold whileL at h1
    obtain ⟨bb, Γ2, e2, h2⟩ := sof_cases h1
    refine ⟨F1, Γ1, bb, Γ2, k1, e2, fun F2 H2 k2 st2 => ?_⟩
    cases bb with
    | false => exact h2 σ1 F2 H2 k2 st2
    | true =>
      rw [if_pos rfl] at h2
      rw [if_pos rfl]
      refine ⟨fun σ' H' => ∃ F1 Γ1, Ok B ⟨F1, H', σ', Γ1⟩ ∧ SPost B ⟨F1, H', σ', Γ1⟩ D (whileL t b m Γ1), fun σ' H' hN => ⟨m, Nat.lt_succ_self m, hN⟩, toTS_mk k2 ?_⟩
      cases eb : b Γ2 with
      | nx Γ4 =>
        rw [eb] at h2
        exact fun σ4 F4 H4 k4 st4 => ⟨F4, Γ4, k4, h2.step (st2.trans st4)⟩
      | ct Γ4 =>
        rw [eb] at h2
        exact fun σ4 F4 H4 k4 st4 => ⟨F4, Γ4, k4, h2.step (st2.trans st4)⟩
      | bk Γ4 =>
        rw [eb] at h2
        exact fun σ4 F4 H4 k4 st4 => h2 σ4 F4 H4 k4 (st2.trans st4)
      | rt r Γ4 =>
        rw [eb] at h2
        exact fun v σ4 F4 H4 k4 st4 rv => h2 v σ4 F4 H4 k4 (st2.trans st4) rv
      | bad =>
        rw [eb] at h2
        exact h2.elim
end
end PD
end

section
set_option maxHeartbeats 4000000
/-! PD8: defs and their calls. -/
namespace PD
open PySem PySem.Spec PyProof.Rows L2
abbrev L2Env := PySem.Env

/-! ### what a def promises: a function on what its arguments stand for -/
inductive FO where
  | ok (r : RV) (outs : List SV)
  | bad
abbrev Fn := List SV → FO
def FPost (K : PySem.W.Frag) (vs : List V) (H : Hp) (s : Sx) (Q : VK) : FO → Prop
  | .ok r outs => ∀ v F' H', Ok ⟨K, vs, H⟩ ⟨F', H', vs.map some, outs.map some⟩ → Step s ⟨F', H', vs.map some, outs.map some⟩ → RVr ⟨K, vs, H⟩ ⟨F', H', vs.map some, outs.map some⟩ v r → Q v H'
  | .bad => False
def spF (K : PySem.W.Frag) (n : Nat) (φ : Fn) : Sp := fun vs H Q _ => ∃ F args, args.length = n ∧ Ok ⟨K, vs, H⟩ ⟨F, H, vs.map some, args.map some⟩ ∧ FPost K vs H ⟨F, H, vs.map some, args.map some⟩ Q (φ args)
theorem spF_len {K : PySem.W.Frag} {n : Nat} {φ : Fn} {vs : List V} {H : Hp} {Q : VK} {E : XK} (h : spF K n φ vs H Q E) : vs.length = n := by
  obtain ⟨F, args, hl, k, _⟩ := h
  have := k.len
  simp only [List.length_map] at this
  omega
/-- what the arguments stand for behind the call -/
def outOf : Nat → List SV → Env → Option (List SV)
  | _, [], _ => some []
  | k, .fro d :: as, Γ => (outOf (k + 1) as Γ).map (.fro d :: ·)
  | k, .own (some j) c :: as, Γ => if j = k then match slotD k Γ with
      | some (.own (some j') c') => if j' = k then (outOf (k + 1) as Γ).map (.own (some k) c' :: ·) else none
      | _ => none
    else none
  | k, .own none c :: as, Γ => none
theorem outOf_get : ∀ {as : List SV} {k : Nat} {Γ : Env} {outs : List SV}, outOf k as Γ = some outs → outs.length = as.length ∧ ∀ (i : Nat) sv, outs[i]? = some sv →
    (∃ d, sv = .fro d ∧ as[i]? = some (.fro d)) ∨ (∃ c c', sv = .own (some (k + i)) c' ∧ as[i]? = some (.own (some (k + i)) c) ∧ Γ[k + i]? = some (some (.own (some (k + i)) c')))
  | [], k, Γ, outs, h => by
    cases h
    exact ⟨rfl, fun i sv e => by simp at e⟩
  | .fro d :: as, k, Γ, outs, h => by
    obtain ⟨o, h1, rfl⟩ := Option.map_eq_some_iff.mp (show (outOf (k + 1) as Γ).map _ = _ from h)
    obtain ⟨l, g⟩ := outOf_get h1
    refine ⟨by rw [List.length_cons, List.length_cons, l], fun i sv e => ?_⟩
    cases i with
    | zero =>
      cases e
      exact .inl ⟨d, rfl, rfl⟩
    | succ i =>
      have e' : o[i]? = some sv := by simpa using e
      rcases g i sv e' with ⟨d', e1, e2⟩ | ⟨c, c', e1, e2, e3⟩
      · exact .inl ⟨d', e1, by simpa using e2⟩
      · have ek : k + 1 + i = k + (i + 1) := by omega
        rw [ek] at e1 e2 e3
        exact .inr ⟨c, c', e1, by simpa using e2, e3⟩
  | .own none c :: as, k, Γ, outs, h => by cases h
  | .own (some j) c :: as, k, Γ, outs, h => by
    unfold outOf at h
    split at h
    · rename_i hj
      subst hj
      split at h
      · rename_i j' c' es
        split at h
        · rename_i hj'
          subst hj'
          obtain ⟨o, h1, rfl⟩ := Option.map_eq_some_iff.mp h
          obtain ⟨l, g⟩ := outOf_get h1
          refine ⟨by rw [List.length_cons, List.length_cons, l], fun i sv e => ?_⟩
          cases i with
          | zero =>
            cases e
            exact .inr ⟨c, c', rfl, rfl, of_slotD es⟩
          | succ i =>
            have e' : o[i]? = some sv := by simpa using e
            rcases g i sv e' with ⟨d', e1, e2⟩ | ⟨c, c', e1, e2, e3⟩
            · exact .inl ⟨d', e1, by simpa using e2⟩
            · have ek : j' + 1 + i = j' + (i + 1) := by omega
              rw [ek] at e1 e2 e3
              exact .inr ⟨c, c', e1, by simpa using e2, e3⟩
        · cases h
      · cases h
    · cases h
theorem getSome {α : Type} {l : List α} {i : Nat} {x : α} (h : (l.map some)[i]? = some (some x)) : l[i]? = some x := by
  rw [List.getElem?_map] at h
  cases e : l[i]? with
  | none =>
    rw [e] at h
    cases h
  | some y =>
    rw [e] at h
    cases h
    rfl
theorem mapSome {α : Type} {l : List α} {i : Nat} {x : α} (h : l[i]? = some x) : (l.map some)[i]? = some (some x) := by
  rw [List.getElem?_map, h]
  rfl
/-- from the body's last state to what the caller sees -/
theorem leave_ok {B : Bx} {F H : Hp} {args outs : List SV} {s' : Sx} (k0 : Ok B ⟨F, H, B.vs.map some, args.map some⟩) {σ : L2.St} {Γ : Env} (hσ : ∀ i : Nat, i < B.vs.length → σ[i]? = (B.vs.map some)[i]?) (st : Step ⟨F, H, σ, Γ⟩ s') (k' : Ok B s')
    (hΓ : ∀ p, IsOwn Γ σ p → IsOwn (args.map some) (B.vs.map some) p) (ho : outOf 0 args s'.Γ = some outs) :
    Ok B ⟨s'.F, s'.H, B.vs.map some, outs.map some⟩ ∧ Step ⟨F, H, B.vs.map some, args.map some⟩ ⟨s'.F, s'.H, B.vs.map some, outs.map some⟩ ∧ ∀ p, IsOwn (outs.map some) (B.vs.map some) p → IsOwn s'.Γ s'.σ p := by
  obtain ⟨hl, g⟩ := outOf_get ho
  have own_of : ∀ (i : Nat) t c, (outs.map some)[i]? = some (some (.own t c)) → ∃ c0, args[i]? = some (.own (some i) c0) ∧ t = some i ∧ s'.Γ[i]? = some (some (.own (some i) c)) := fun i t c q => by
    rcases g i _ (getSome q) with ⟨d, e1, _⟩ | ⟨c0, c', e1, e2, e3⟩
    · cases e1
    · rw [Nat.zero_add] at e1 e2 e3
      cases e1
      exact ⟨c0, e2, rfl, e3⟩
  refine ⟨⟨k'.ext, ?_, fun i d q => ?_, fun i t c q => ?_, fun i j t t' c c' p q1 q2 e1 e2 => ?_, k'.dom⟩, ⟨st.same, fun p o h n => st.fr p o h fun z => n (hΓ p z), st.th, fun p q => ?_, fun p o h => ?_⟩, fun p q => ?_⟩
  · have := k0.len
    simp only [List.length_map] at this ⊢
    omega
  · rcases g i _ (getSome q) with ⟨d', e1, e2⟩ | ⟨c0, c', e1, _⟩
    · cases e1
      obtain ⟨v, h1, h2⟩ := k0.fro i d (mapSome e2)
      exact ⟨v, h1, h2.same st.same⟩
    · cases e1
  · obtain ⟨c0, e2, rfl, e3⟩ := own_of i t c q
    obtain ⟨p, h1, h2, h3, h4⟩ := k'.own i _ c e3
    have h4' : B.vs[i]? = some (.ref p) := h4
    exact ⟨p, mapSome h4', h2, h3, h4⟩
  · obtain ⟨c0, x1, rfl, x2⟩ := own_of i t c q1
    obtain ⟨c0', y1, rfl, y2⟩ := own_of j t' c' q2
    exact k0.dis i j _ _ c0 c0' p (mapSome x1) (mapSome y1) e1 e2
  · obtain ⟨i, t, c, q1, q2⟩ := q
    obtain ⟨c0, x1, rfl, x2⟩ := own_of i t c q1
    exact .inl ⟨i, _, c0, mapSome x1, q2⟩
  · rcases st.fh p o h with z | z | z
    · exact .inl z
    · exact .inr (.inl (hΓ p z))
    · exact .inr (.inr z)
  · obtain ⟨i, t, c, q1, q2⟩ := q
    obtain ⟨c0, x1, rfl, x2⟩ := own_of i t c q1
    obtain ⟨p', h1, h2, h3, h4⟩ := k'.own i _ c x2
    have h4' : B.vs[i]? = some (.ref p') := h4
    have q2' := getSome q2
    rw [h4'] at q2'
    cases q2'
    exact ⟨i, _, c, x2, h1⟩

/-- the slots at a def's entry -/
def entryΓ (m : Nat) (args : List SV) : Env := args.map some ++ List.replicate m none
theorem entry_ok {K : PySem.W.Frag} {vs : List V} {F H : Hp} {args : List SV} {N : List Str} (k : Ok ⟨K, vs, H⟩ ⟨F, H, vs.map some, args.map some⟩) :
    Ok ⟨K, vs, H⟩ ⟨F, H, start N vs, entryΓ (N.length - vs.length) args⟩ ∧ (∀ i : Nat, i < vs.length → (start N vs)[i]? = (vs.map some)[i]?) ∧ ∀ p, IsOwn (entryΓ (N.length - vs.length) args) (start N vs) p → IsOwn (args.map some) (vs.map some) p := by
  have hl : vs.length = args.length := by simpa using k.len
  have gσ : ∀ i : Nat, i < vs.length → (start N vs)[i]? = (vs.map some)[i]? := fun i hi => by
    unfold L2.start
    exact List.getElem?_append_left (by simpa using hi)
  have gΓ : ∀ (i : Nat) sv, (entryΓ (N.length - vs.length) args)[i]? = some (some sv) → i < args.length ∧ (args.map some)[i]? = some (some sv) := fun i sv q => by
    unfold entryΓ at q
    by_cases hi : i < args.length
    · rw [List.getElem?_append_left (by simpa using hi)] at q
      exact ⟨hi, q⟩
    · rw [List.getElem?_append_right (by simpa using hi)] at q
      rw [List.getElem?_replicate] at q
      split at q
      · cases q
      · cases q
  refine ⟨⟨k.ext, ?_, fun i d q => ?_, fun i t c q => ?_, fun i j t t' c c' p q1 q2 e1 e2 => ?_, k.dom⟩, gσ, fun p q => ?_⟩
  · unfold L2.start entryΓ
    simp only [List.length_append, List.length_map, List.length_replicate]
    omega
  · obtain ⟨hi, q⟩ := gΓ i _ q
    obtain ⟨v, h1, h2⟩ := k.fro i d q
    exact ⟨v, by rw [← h1]; exact gσ i (by omega), h2⟩
  · obtain ⟨hi, q⟩ := gΓ i _ q
    obtain ⟨v, h1, h2⟩ := k.own i t c q
    exact ⟨v, by rw [← h1]; exact gσ i (by omega), h2⟩
  · obtain ⟨hi, q1⟩ := gΓ i _ q1
    obtain ⟨hj, q2⟩ := gΓ j _ q2
    rw [show (start N vs)[i]? = _ from gσ i (by omega)] at e1
    rw [show (start N vs)[j]? = _ from gσ j (by omega)] at e2
    exact k.dis i j t t' c c' p q1 q2 e1 e2
  · obtain ⟨i, t, c, q1, q2⟩ := q
    obtain ⟨hi, q1⟩ := gΓ i _ q1
    rw [show (start N vs)[i]? = _ from gσ i (by omega)] at q2
    exact ⟨i, t, c, q1, q2⟩

/-- how a body's function keeps the promise φ -/
def Keeps (φ : Fn) (n m : Nat) (f : SF) : Prop := ∀ args r outs, args.length = n → φ args = .ok r outs → ∃ Γ', (f (entryΓ m args) = .rt r Γ' ∨ (f (entryΓ m args) = .nx Γ' ∧ r = .fro .none)) ∧ outOf 0 args Γ' = some outs
theorem spF_body {K : PySem.W.Frag} {n : Nat} {φ : Fn} {vs : List V} {H : Hp} {Q : VK} {E : XK} {N : List Str} {f : SF} (h : spF K n φ vs H Q E) (hk : Keeps φ n (N.length - n) f) : toTS ⟨K, vs, H⟩ f { nx := fun _ H' => Q .non H', rt := Q } (start N vs) H := by
  have hl := spF_len h
  obtain ⟨F, args, hn, k, p⟩ := h
  cases e : φ args with
  | bad =>
    rw [e] at p
    exact p.elim
  | ok r outs =>
    rw [e] at p
    obtain ⟨Γ', hf, ho⟩ := hk args r outs hn e
    obtain ⟨k1, hσ, hΓ⟩ := entry_ok (N := N) k
    rw [hl] at k1 hΓ
    have fin : ∀ {v : V} {s' : Sx}, Ok ⟨K, vs, H⟩ s' → Step ⟨F, H, start N vs, entryΓ (N.length - n) args⟩ s' → s'.Γ = Γ' → RVr ⟨K, vs, H⟩ s' v r → Q v s'.H := fun {v s'} k' st eΓ rv => by
      obtain ⟨k2, st2, own2⟩ := leave_ok (B := ⟨K, vs, H⟩) k hσ st k' hΓ (by rw [eΓ]; exact ho)
      refine p v s'.F s'.H k2 st2 ?_
      cases r with
      | fro d => exact rv
      | nw c =>
        obtain ⟨a, h1, h2, h3, h4, h5⟩ := rv
        exact ⟨a, h1, h2, h3, h4, fun z => h5 (own2 a z)⟩
    refine toTS_mk k1 ?_
    rcases hf with hf | ⟨hf, rfl⟩
    · rw [hf]
      exact fun v σ' F' H' k' st rv => fin k' st rfl rv
    · rw [hf]
      exact fun σ' F' H' k' st => fin k' st rfl (rvg_non (H' := H') (H := H'))
/-- the context of a def's body out of which nothing is raised -/
abbrev cxD (P : Program) (w : World) (K : PySem.W.Frag) (mg : Str → Option Value) (base : Heap) (N : List Str) (qual : Str) (scope : Scope) (f : Addr) (cd : Value) (A : Around) (outer : List L2Env) (s : Shared) (H : Hp) (E : XK) : Cx := (cxOf CX0 P w K mg base N qual scope f cd A outer s H E).nox
/-- a def's promise where no repr is being made around the call -/
structure FnG (P : Program) (w : World) (K : PySem.W.Frag) (mg : Str → Option Value) (base : Heap) (k : Nat) (f : Addr) (fd : FuncData) (ps : List Str) (sp : Sp) : Prop where
  len : ∀ vs H Q E, sp vs H Q E → vs.length = ps.length
  run : ∀ (A : Around) (outer : List L2Env) (s : Shared) (H : Hp) (args : Args) (us : List Value) (vs : List V) (Q : VK) (E : XK), Room k A → A.guards = some [] → Env0 P w K mg base A outer s H → BindsTo s fd args (ps.zip us) → Vals vs us →
    sp vs H Q E → codeAny (model P w) A (.call (.ref f) args) (CR CX0 outer P w H s Q E) s
/-- a def of the text that keeps its promise -/
structure Def (P : Program) (w : World) (K : PySem.W.Frag) (mg : Str → Option Value) (base : Heap) (x : Str) (st : Stmt) (ps : List Str) (k : Nat) (φ : Fn) : Prop where
  ex : ∃ f fd, mg x = some (.ref f) ∧ FunD K x x (defArgs st) (defBody st) (defScope st) [] [] f fd ∧ Binds K fd ps [] ∧ FnG P w K mg base k f fd ps (spF K ps.length φ)
section
variable {P : Program} {w : World} {K : PySem.W.Frag} {mg : Str → Option Value} {base : Heap}
theorem fnG_of {x : Str} {params : Arguments} {body : List Stmt} {scope : Scope} {f : Addr} {fd : FuncData} {N ps : List Str} {k : Nat} {sp : Sp} (D : FunD K x x params body scope [] [] f fd) (S : FnScope N ps scope) (len : ∀ vs H Q E, sp vs H Q E → vs.length = ps.length)
    (does : ∀ (cdv : Value) (A : Around) (outer : List L2Env) (s : Shared) (H : Hp) (vs : List V) (Q : VK) (E : XK), Room k (A.deeper (envOfC x scope s.heap.objs.size f cdv)) → (A.deeper (envOfC x scope s.heap.objs.size f cdv)).guards = some [] → sp vs H Q E →
      ∃ t, PSs (cxOf CX0 P w K mg base N x scope f cdv A outer s H E) body t ∧ t { nx := fun _ H' => Q .non H', rt := Q } (start N vs) H) : FnG P w K mg base (k + 1) f fd ps sp := by
  obtain ⟨oc, od, dV, kV, doc, pm, an, cdv, ct, osl, rfl, found, coded, _, _⟩ := D.ex
  refine ⟨len, fun A outer s H args us vs Q E room quiet e0 binds rel asked => ?_⟩
  have inHeap : K.In s.heap := e0.mod.kin.keeps fun b o e => (e0.bs b o e).1
  have free : s.heap.NoLimit := e0.mod.nolimit.keeps fun b o e => (e0.bs b o e).1
  have kinds : ∀ y ∈ ps.zip us, scope.names.lookup y.1 = some .local ∨ (scope.names.lookup y.1 = some .cell ∧ ((cellsFrom (s.heap.objs.size + 1) scope.names []).lookup y.1).isSome = true) := fun y hy => by
    rcases S.par y.1 (List.of_mem_zip hy).1 with q | q
    · exact .inl q
    · exact .inr ⟨q, PySem.W.cellsFrom_some _ _ _ (.inl q)⟩
  refine codeAny_call_function room.depth (inHeap _ _ found) rfl S.co S.gen rfl (PySem.W.codeRec_of inHeap coded) (binds _ _ _ _ ?_)
  refine wpAny_newFunctionEnv_cells S.kind kinds fun env he s1 entered => ?_
  subst he
  refine ⟨free.keeps entered.toInCall.keep, codeAny_func ?_⟩
  obtain ⟨t, walked, goal⟩ := does cdv A outer s H vs Q E (room.deeper _) quiet asked
  have I0 : Inv (cxOf CX0 P w K mg base N x scope f cdv A outer s H E) [] (start N vs) H s1 := inv_start S room.hd e0 (len _ _ _ _ asked) rel entered
  refine wpAny_mono (walked.run [] s1 (start N vs) H _ I0 goal) (fun flow s' got => ?_) fun _ _ got => got
  have out : ∀ {σ' : L2.St} {H' : Hp} {v : V} {u : Value}, Inv (cxOf CX0 P w K mg base N x scope f cdv A outer s H E) [] σ' H' s' → RelV v u → Q v H' → CE outer P w H s Q u s' :=
    fun {_ H' v u} J rv q => ⟨v, H', J.os, J.bare, J.base, J.hok, rv, q⟩
  cases flow with
  | ret u =>
    obtain ⟨_, _, _, J, rv, q⟩ := got
    exact out J rv q
  | next =>
    obtain ⟨_, _, J, q⟩ := got
    exact out (v := .non) (u := .none) J rfl q
  | brk =>
    obtain ⟨_, _, _, q⟩ := got
    exact q.elim
  | cont =>
    obtain ⟨_, _, _, q⟩ := got
    exact q.elim
theorem FnG.mono {j k : Nat} {f : Addr} {fd : FuncData} {ps : List Str} {sp : Sp} (F : FnG P w K mg base j f fd ps sp) (h : j ≤ k) : FnG P w K mg base k f fd ps sp := ⟨F.len, fun A outer s H args us vs Q E r => F.run A outer s H args us vs Q E (r.mono h)⟩
theorem def_ok {x : Str} {st : Stmt} {f : Addr} {fd : FuncData} {N ps : List Str} {k : Nat} {φ : Fn} {b : SF} (D : FunD K x x (defArgs st) (defBody st) (defScope st) [] [] f fd) (hm : mg x = some (.ref f)) (S : FnScope N ps (defScope st))
    (hbind : ∀ (kV doc pm : Value) (an : Option Addr) (cdv ct : Value) (us : List Value), us.length = ps.length → bindArgs (PySem.W.fnOf x x (defArgs st) (defBody st) (defScope st) .none kV doc pm an cdv ct) ⟨us, []⟩ = pure (ps.zip us))
    (hb : ∀ (cdv : Value) (A : Around) (outer : List L2Env) (s : Shared) (H : Hp) (vs : List V) (E : XK), Room k (A.deeper (envOfC x (defScope st) s.heap.objs.size f cdv)) → (A.deeper (envOfC x (defScope st) s.heap.objs.size f cdv)).guards = some [] →
      SSs ⟨K, vs, H⟩ (cxD P w K mg base N x (defScope st) f cdv A outer s H E) (defBody st) b)
    (hk : Keeps φ ps.length (N.length - ps.length) b) : Def P w K mg base x st ps (k + 1) φ := by
  refine ⟨f, fd, hm, D, D.bindsN hbind, fnG_of D S (fun vs H Q E h => spF_len h) fun cdv A outer s H vs Q E hr hq h => ?_⟩
  exact ⟨_, PSs.nox (hb cdv A outer s H vs E hr hq), spF_body h hk⟩
end
section
variable {X : Cx}
/-- a call of such a def, its values bound -/
theorem runG {k : Nat} {f : Addr} {fd : FuncData} {ps : List Str} {sp : Sp} {E : XK} {pins : List (Addr × Obj)} {σ : L2.St} {H : Hp} {s : Shared} {Q : VK} {args : Args} {us : List Value} {vs : List V} (F : FnG X.prog X.w X.K X.mg X.base k f fd ps sp) (hr : Room k X.A) (hq : X.A.guards = some [])
    (hb : BindsTo s fd args (ps.zip us)) (I : Inv X pins σ H s) (r : Vals vs us) (h : sp vs H Q E) : wpAny (model X.prog X.w) X.A (call (.ref f) args.pos args.kw) (EP X pins σ Q) X.xe s := by
  refine wpAny_call (codeAny_mono (F.run X.A X.stack s H args us vs Q E hr hq I.env0 hb r h) fun res s' got => ?_)
  cases res with
  | error e => exact got.elim
  | ok flow =>
    cases flow with
    | ret u => exact I.after got
    | next => exact got.elim
    | brk => exact got.elim
    | cont => exact got.elim
theorem pe_callG {k : Nat} {f : Addr} {fd : FuncData} {ps : List Str} {sp : Sp} {E : XK} {x : Str} {p pos : Pos} {e : Expr} {es : List Expr} {t : TA} (F : FnG X.prog X.w X.K X.mg X.base k f fd ps sp) (hr : Room k X.A) (hq : X.A.guards = some []) (hg : Gl X x) (hm : X.mg x = some (.ref f)) (hk : PySem.W.keepIn X.K (.ref f) = true)
    (hb : Binds X.K fd ps []) (ha : PA X (e :: es) t) (hdb : (x == ("__debug__" : Str)) = false := by decide) (he : starEach (e :: es) X.env = (false, eval e X.env) :: starEach es X.env := by rfl) (hpl : (backTo pos (starEach es X.env)).any (·.1) = false := by rfl) :
    PE X (.Call (.Name x p) (e :: es) [] pos) (tCall sp [] E t) := ⟨fun pins s σ H Q I h => by
  refine wpAny_Call_Name_kw (ld_glob I hg hm ?_ hdb)
  refine PySem.W.callWith_K (h₀ := X.base) I.ok.mod.kin hk (thn (ha.run pos pins s σ H _ I h) fun us s1 ⟨vs, H1, I1, r, q⟩ => ⟨I1.kIn, ?_⟩) he hpl
  have q' : sp vs H1 Q E := by rw [← List.append_nil vs]; exact q
  have hb' := hb s1 us I1.kIn
  rw [List.append_nil] at hb'
  have hl : us.length = ps.length := by rw [← r.length]; exact F.len _ _ _ _ q'
  exact runG (args := ⟨us, []⟩) F hr hq (hb' hl) I1 r q'⟩
end

/-! ### calls -/
def mkSV : Nat → List AV → Env → Option (List SV)
  | _, [], _ => some []
  | k, .d d :: as, Γ => (mkSV (k + 1) as Γ).map (.fro d :: ·)
  | k, .s i :: as, Γ => (slotD i Γ).bind fun sv => (mkSV (k + 1) as Γ).map ((match sv with
      | .fro d => .fro d
      | .own _ c => .own (some k) c) :: ·)
def slotsOf : List AV → List Nat
  | [] => []
  | .d _ :: as => slotsOf as
  | .s i :: as => i :: slotsOf as
def backs : List AV → List SV → PD.Env → Option PD.Env
  | [], [], Γ => some Γ
  | .d _ :: as, _ :: os, Γ => backs as os Γ
  | .s i :: as, .fro _ :: os, Γ => match slotD i Γ with
    | some (.fro _) => backs as os Γ
    | _ => none
  | .s i :: as, .own _ c' :: os, Γ => match slotD i Γ with
    | some (.own t _) => backs as os (Γ.set i (some (.own t c')))
    | _ => none
  | _, _, _ => none
theorem mkSV_get {B : Bx} {s : Sx} : ∀ {as : List AV} {vs : List V} {k : Nat} {svs : List SV}, RepAVs B s as vs → mkSV k as s.Γ = some svs → svs.length = as.length ∧ vs.length = as.length ∧ ∀ (j : Nat) sv, svs[j]? = some sv → ∃ v, vs[j]? = some v ∧
    ((∃ d, sv = .fro d ∧ as[j]? = some (.d d) ∧ Rep B.K s.F d v) ∨ (∃ i d, sv = .fro d ∧ as[j]? = some (.s i) ∧ s.Γ[i]? = some (some (.fro d)) ∧ s.σ[i]? = some (some v)) ∨ (∃ i t c, sv = .own (some (k + j)) c ∧ as[j]? = some (.s i) ∧ s.Γ[i]? = some (some (.own t c)) ∧ s.σ[i]? = some (some v)))
  | [], vs, k, svs, h, e => by
    cases e
    have h' : vs = [] := h
    subst h'
    exact ⟨rfl, rfl, fun j sv e => by simp at e⟩
  | .d d :: as, vs, k, svs, h, e => by
    obtain ⟨v, r, rfl, h1, h2⟩ := h
    obtain ⟨o, e1, rfl⟩ := Option.map_eq_some_iff.mp (show (mkSV (k + 1) as s.Γ).map _ = _ from e)
    obtain ⟨l1, l2, g⟩ := mkSV_get h2 e1
    refine ⟨by rw [List.length_cons, List.length_cons, l1], by rw [List.length_cons, List.length_cons, l2], fun j sv e => ?_⟩
    cases j with
    | zero =>
      cases e
      exact ⟨v, rfl, .inl ⟨d, rfl, rfl, h1⟩⟩
    | succ j =>
      obtain ⟨w, hw, z⟩ := g j sv (by simpa using e)
      refine ⟨w, by simpa using hw, ?_⟩
      rcases z with ⟨d', z1, z2, z3⟩ | ⟨i, d', z1, z2, z3⟩ | ⟨i, t, c, z1, z2, z3⟩
      · exact .inl ⟨d', z1, by simpa using z2, z3⟩
      · exact .inr (.inl ⟨i, d', z1, by simpa using z2, z3⟩)
      · have ek : k + 1 + j = k + (j + 1) := by omega
        rw [ek] at z1
        exact .inr (.inr ⟨i, t, c, z1, by simpa using z2, z3⟩)
  | .s i :: as, vs, k, svs, h, e => by
    obtain ⟨v, r, rfl, h1, h2⟩ := h
    obtain ⟨sv0, es, e0⟩ := Option.bind_eq_some_iff.mp (show (slotD i s.Γ).bind _ = _ from e)
    obtain ⟨o, e1, rfl⟩ := Option.map_eq_some_iff.mp e0
    obtain ⟨l1, l2, g⟩ := mkSV_get h2 e1
    have ei := of_slotD es
    refine ⟨by rw [List.length_cons, List.length_cons, l1], by rw [List.length_cons, List.length_cons, l2], fun j sv e => ?_⟩
    cases j with
    | zero =>
      cases sv0 with
      | fro d =>
        cases e
        exact ⟨v, rfl, .inr (.inl ⟨i, d, rfl, rfl, ei, h1⟩)⟩
      | own t c =>
        cases e
        exact ⟨v, rfl, .inr (.inr ⟨i, t, c, rfl, rfl, ei, h1⟩)⟩
    | succ j =>
      obtain ⟨w, hw, z⟩ := g j sv (by simpa using e)
      refine ⟨w, by simpa using hw, ?_⟩
      rcases z with ⟨d', z1, z2, z3⟩ | ⟨i, d', z1, z2, z3⟩ | ⟨i, t, c, z1, z2, z3⟩
      · exact .inl ⟨d', z1, by simpa using z2, z3⟩
      · exact .inr (.inl ⟨i, d', z1, by simpa using z2, z3⟩)
      · have ek : k + 1 + j = k + (j + 1) := by omega
        rw [ek] at z1
        exact .inr (.inr ⟨i, t, c, z1, by simpa using z2, z3⟩)
theorem slots_mem {as : List AV} {j i : Nat} (h : as[j]? = some (.s i)) : i ∈ slotsOf as := by
  induction as generalizing j with
  | nil => simp at h
  | cons a as ih =>
    cases j with
    | zero =>
      cases h
      exact List.mem_cons_self
    | succ j =>
      have h' : as[j]? = some (.s i) := by simpa using h
      cases a with
      | d _ => exact ih h'
      | s _ => exact List.mem_cons_of_mem _ (ih h')
theorem slots_inj : ∀ {as : List AV} {j j' i : Nat}, (slotsOf as).Nodup → as[j]? = some (.s i) → as[j']? = some (.s i) → j = j'
  | [], _, _, _, _, h, _ => by simp at h
  | .d _ :: as, 0, _, _, _, h, _ => by cases h
  | .d _ :: as, _ + 1, 0, _, _, _, h => by cases h
  | .d _ :: as, j + 1, j' + 1, i, n, h, h' => congrArg (· + 1) (slots_inj (as := as) (j := j) (j' := j') (i := i) n (by simpa using h) (by simpa using h'))
  | .s x :: as, 0, 0, _, _, _, _ => rfl
  | .s x :: as, 0, j' + 1, i, n, h, h' => by
    cases h
    exact absurd (slots_mem (by simpa using h')) (List.nodup_cons.mp n).1
  | .s x :: as, j + 1, 0, i, n, h, h' => by
    cases h'
    exact absurd (slots_mem (by simpa using h)) (List.nodup_cons.mp n).1
  | .s x :: as, j + 1, j' + 1, i, n, h, h' => congrArg (· + 1) (slots_inj (as := as) (j := j) (j' := j') (i := i) (List.nodup_cons.mp n).2 (by simpa using h) (by simpa using h'))
/-- behind the call: each slot is as it was, or its container has the new content -/
theorem backs_get : ∀ {as : List AV} {outs : List SV} {Γ Γ2 : PD.Env}, (slotsOf as).Nodup → backs as outs Γ = some Γ2 → Γ2.length = Γ.length ∧ ∀ (i : Nat) sv, Γ2[i]? = some (some sv) →
    (Γ[i]? = some (some sv) ∧ ∀ (j : Nat), as[j]? = some (.s i) → ∃ d, sv = .fro d) ∨ ∃ j : Nat, ∃ t t' c c', as[j]? = some (.s i) ∧ outs[j]? = some (.own t' c') ∧ sv = .own t c' ∧ Γ[i]? = some (some (.own t c))
  | [], [], Γ, Γ2, _, e => by
    cases e
    exact ⟨rfl, fun i sv h => .inl ⟨h, fun j h => by simp at h⟩⟩
  | [], _ :: _, Γ, Γ2, _, e => by cases e
  | .d _ :: as, [], Γ, Γ2, _, e => by cases e
  | .d _ :: as, o :: os, Γ, Γ2, n, e => by
    obtain ⟨l, g⟩ := backs_get (as := as) n (show backs as os Γ = some Γ2 from e)
    refine ⟨l, fun i sv h => ?_⟩
    rcases g i sv h with ⟨z1, z2⟩ | ⟨j, t, t', c, c', z1, z2, z3, z4⟩
    · refine .inl ⟨z1, fun j q1 => ?_⟩
      cases j with
      | zero => cases q1
      | succ j => exact z2 j (by simpa using q1)
    · exact .inr ⟨j + 1, t, t', c, c', by simpa using z1, by simpa using z2, z3, z4⟩
  | .s x :: as, [], Γ, Γ2, _, e => by cases e
  | .s x :: as, .fro _ :: os, Γ, Γ2, n, e => by
    unfold backs at e
    split at e
    · rename_i d es
      have ei := of_slotD es
      obtain ⟨l, g⟩ := backs_get (as := as) (List.nodup_cons.mp n).2 e
      refine ⟨l, fun i sv h => ?_⟩
      rcases g i sv h with ⟨z1, z2⟩ | ⟨j, t, t', c, c', z1, z2, z3, z4⟩
      · refine .inl ⟨z1, fun j q1 => ?_⟩
        cases j with
        | zero =>
          cases q1
          rw [ei] at z1
          cases z1
          exact ⟨d, rfl⟩
        | succ j => exact z2 j (by simpa using q1)
      · exact .inr ⟨j + 1, t, t', c, c', by simpa using z1, by simpa using z2, z3, z4⟩
    · cases e
  | .s x :: as, .own t0 c0 :: os, Γ, Γ2, n, e => by
    unfold backs at e
    split at e
    · rename_i t c es
      have ei := of_slotD es
      have hx : x < Γ.length := (List.getElem?_eq_some_iff.mp ei).1
      obtain ⟨l, g⟩ := backs_get (as := as) (List.nodup_cons.mp n).2 e
      refine ⟨by rw [l, List.length_set], fun i sv h => ?_⟩
      rcases g i sv h with ⟨z1, z2⟩ | ⟨j, t1, t2, c1, c2, z1, z2, z3, z4⟩
      · rcases set_cases z1 with ⟨rfl, z3, _⟩ | ⟨hi, z1⟩
        · cases z3
          exact .inr ⟨0, t, t0, c, c0, rfl, rfl, rfl, ei⟩
        · refine .inl ⟨z1, fun j q1 => ?_⟩
          cases j with
          | zero =>
            cases q1
            exact absurd rfl hi
          | succ j => exact z2 j (by simpa using q1)
      · have hix : i ≠ x := fun z => by
          subst z
          exact (List.nodup_cons.mp n).1 (slots_mem z1)
        rw [List.getElem?_set_ne (Ne.symm hix)] at z4
        exact .inr ⟨j + 1, t1, t2, c1, c2, by simpa using z1, by simpa using z2, z3, z4⟩
    · cases e
theorem call_core {B : Bx} {F H : Hp} {σ : L2.St} {Γ Γ2 : PD.Env} {avs : List AV} {vs : List V} {svs outs : List SV} {φ : Fn} {r : RV} {n : Nat} {Q : VK} {E : XK} (k : Ok B ⟨F, H, σ, Γ⟩) (rp : RepAVs B ⟨F, H, σ, Γ⟩ avs vs) (hn : avs.length = n) (hd : (slotsOf avs).Nodup)
    (e1 : mkSV 0 avs Γ = some svs) (e2 : φ svs = .ok r outs) (e3 : backs avs outs Γ = some Γ2)
    (q : ∀ v F' H', Ok B ⟨F', H', σ, Γ2⟩ → Step ⟨F, H, σ, Γ⟩ ⟨F', H', σ, Γ2⟩ → RVok B ⟨F, H, σ, Γ⟩ ⟨F', H', σ, Γ2⟩ v r → Q v H') : spF B.K n φ vs H Q E := by
  obtain ⟨l1, l2, g⟩ := mkSV_get rp e1
  obtain ⟨l3, gb⟩ := backs_get hd e3
  have lsv : vs.length = svs.length := by omega
  have own_of : ∀ (j : Nat) t c, (svs.map some)[j]? = some (some (.own t c)) → ∃ i t0 p, avs[j]? = some (.s i) ∧ Γ[i]? = some (some (.own t0 c)) ∧ σ[i]? = some (some (.ref p)) ∧ vs[j]? = some (.ref p) ∧ t = some j ∧ F p = none ∧ OwnOk B.K F H p c := fun j t c z => by
    obtain ⟨v, hv, z⟩ := g j _ (getSome z)
    rcases z with ⟨d', z1, _⟩ | ⟨i, d', z1, _⟩ | ⟨i, t0, c0, z1, z2, z3, z4⟩
    · cases z1
    · cases z1
    · rw [Nat.zero_add] at z1
      cases z1
      obtain ⟨p, h1, h2, h3, h4⟩ := k.own i t0 c z3
      have h1' : σ[i]? = some (some (.ref p)) := h1
      have z4' : σ[i]? = some (some v) := z4
      rw [h1'] at z4'
      cases z4'
      exact ⟨i, t0, p, z2, z3, h1, hv, rfl, h2, h3⟩
  have kc : Ok ⟨B.K, vs, H⟩ ⟨F, H, vs.map some, svs.map some⟩ := by
    refine ⟨k.ext, by simp only [List.length_map]; exact lsv, fun j d z => ?_, fun j t c z => ?_, fun j j' t t' c c' p z z' x x' => ?_, fun p o h => ⟨o, h⟩⟩
    · obtain ⟨v, hv, z⟩ := g j _ (getSome z)
      rcases z with ⟨d', z1, z2, z3⟩ | ⟨i, d', z1, z2, z3, z4⟩ | ⟨i, t0, c0, z1, _⟩
      · cases z1
        exact ⟨v, mapSome hv, z3⟩
      · cases z1
        obtain ⟨w, h1, h2⟩ := k.fro i d z3
        have h1' : σ[i]? = some (some w) := h1
        have z4' : σ[i]? = some (some v) := z4
        rw [h1'] at z4'
        cases z4'
        exact ⟨v, mapSome hv, h2⟩
      · cases z1
    · obtain ⟨i, t0, p, a1, a2, a3, a4, a5, a6, a7⟩ := own_of j t c z
      subst a5
      exact ⟨p, mapSome a4, a6, a7, a4⟩
    · obtain ⟨i, t0, p1, a1, a2, a3, a4, a5, _⟩ := own_of j t c z
      obtain ⟨i', t0', p2, b1, b2, b3, b4, b5, _⟩ := own_of j' t' c' z'
      rw [mapSome a4] at x
      rw [mapSome b4] at x'
      cases x
      cases x'
      have hii := k.dis i i' t0 t0' c c' p a2 b2 a3 b3
      subst hii
      exact slots_inj hd a1 b1
  have own_sub : ∀ p, IsOwn (svs.map some) (vs.map some) p → IsOwn Γ σ p := fun p ⟨j, t, c, z1, z2⟩ => by
    obtain ⟨i, t0, p1, a1, a2, a3, a4, _⟩ := own_of j t c z1
    rw [mapSome a4] at z2
    cases z2
    exact ⟨i, t0, c, a2, a3⟩
  refine ⟨F, svs, by omega, kc, ?_⟩
  rw [e2]
  intro v F' H' kp st rv
  -- an own slot that is not handed over stays as it is
  have nown : ∀ (i : Nat) t c p, Γ[i]? = some (some (.own t c)) → σ[i]? = some (some (.ref p)) → (∀ j : Nat, avs[j]? ≠ some (.s i)) → ¬ IsOwn (svs.map some) (vs.map some) p := fun i t c p z1 h1 nj ⟨j, t', c', w1, w2⟩ => by
    obtain ⟨i', t0', p2, b1, b2, b3, b4, _⟩ := own_of j t' c' w1
    rw [mapSome b4] at w2
    cases w2
    have hii := k.dis i i' t t0' c c' p z1 b2 h1 b3
    subst hii
    exact nj j b1
  have stays : ∀ p o, H p = some o → Mut (some o) → F p = none → ¬ IsOwn (svs.map some) (vs.map some) p → F' p = none := fun p o ho hm hF hno => by
    cases q : F' p with
    | none => rfl
    | some x =>
      exfalso
      rcases st.fh p x q with z | z | z | z
      · have z' : F p = some x := z
        rw [hF] at z'
        cases z'
      · exact hno z
      · have z' : H p = none := z
        rw [ho] at z'
        cases z'
      · exact z (kp.ext.immut q (st.fr p o ho hno) hm)
  have own2 : ∀ (i : Nat) t c, Γ2[i]? = some (some (.own t c)) → ∃ p, σ[i]? = some (some (.ref p)) ∧ F' p = none ∧ OwnOk B.K F' H' p c ∧ Tag B p t ∧ ∃ c0, Γ[i]? = some (some (.own t c0)) := fun i t c z => by
    rcases gb i _ z with ⟨z1, z2⟩ | ⟨j, t1, t2, c1, c2, z1, z2, z3, z4⟩
    · obtain ⟨p, h1, h2, h3, h4⟩ := k.own i t c z1
      obtain ⟨o, ho, hm⟩ := h3.there
      have nj : ∀ j : Nat, avs[j]? ≠ some (.s i) := fun j hj => by
        obtain ⟨d, hd⟩ := z2 j hj
        cases hd
      have hno := nown i t c p z1 h1 nj
      exact ⟨p, h1, stays p o ho hm h2 hno, h3.keep st.same fun o q => st.fr p o q hno, h4, c, z1⟩
    · cases z3
      obtain ⟨p, h1, h2, h3, h4⟩ := k.own i t c1 z4
      obtain ⟨p', x1, x2, x3, x4⟩ := kp.own j t2 c (mapSome z2)
      have hv : vs[j]? = some (.ref p') := getSome x1
      have hj : j < svs.length := by
        have := (List.getElem?_eq_some_iff.mp hv).1
        omega
      obtain ⟨v', hv', zz⟩ := g j _ (List.getElem?_eq_getElem hj)
      have epp : p' = p := by
        rcases zz with ⟨d', w1, w2, w3⟩ | ⟨i', d', w1, w2, w3, w4⟩ | ⟨i', t0, c0, w1, w2, w3, w4⟩
        · rw [z1] at w2
          cases w2
        · rw [z1] at w2
          cases w2
          have w3' : Γ[i]? = some (some (.fro d')) := w3
          rw [z4] at w3'
          cases w3'
        · rw [z1] at w2
          cases w2
          have w4' : σ[i]? = some (some v') := w4
          have h1' : σ[i]? = some (some (.ref p)) := h1
          rw [h1'] at w4'
          cases w4'
          rw [hv] at hv'
          cases hv'
          rfl
      subst epp
      exact ⟨p', h1, x2, x3, h4, c1, z4⟩
  have k2 : Ok B ⟨F', H', σ, Γ2⟩ := by
    refine ⟨kp.ext, by rw [show σ.length = Γ.length from k.len]; exact l3.symm, fun i d z => ?_, fun i t c z => ?_, fun i j t t' c c' p z z' x x' => ?_, fun p o h => ?_⟩
    · rcases gb i _ z with ⟨z1, _⟩ | ⟨j, t1, t2, c1, c2, _, _, z3, _⟩
      · obtain ⟨w, h1, h2⟩ := k.fro i d z1
        exact ⟨w, h1, h2.same st.same⟩
      · cases z3
    · obtain ⟨p, h1, h2, h3, h4, _⟩ := own2 i t c z
      exact ⟨p, h1, h2, h3, h4⟩
    · obtain ⟨_, _, _, _, _, c0, a1⟩ := own2 i t c z
      obtain ⟨_, _, _, _, _, c0', b1⟩ := own2 j t' c' z'
      exact k.dis i j t t' c0 c0' p a1 b1 x x'
    · obtain ⟨o', h'⟩ := k.dom p o h
      exact st.th p o' h'
  have st2 : Step ⟨F, H, σ, Γ⟩ ⟨F', H', σ, Γ2⟩ := by
    refine ⟨st.same, fun p o h n => st.fr p o h fun z => n (own_sub p z), st.th, fun p ⟨i, t, c, z1, z2⟩ => ?_, fun p o h => ?_⟩
    · obtain ⟨_, _, _, _, _, c0, a1⟩ := own2 i t c z1
      exact .inl ⟨i, t, c0, a1, z2⟩
    · rcases st.fh p o h with z | z | z
      · exact .inl z
      · exact .inr (.inl (own_sub p z))
      · exact .inr (.inr z)
  refine q v F' H' k2 st2 ?_
  cases r with
  | fro d => exact rv
  | nw c =>
    obtain ⟨p, h1, h2, h3, h4, h5⟩ := rv
    refine ⟨p, h1, h2, h3, h4, fun ⟨i, t, c', z1, z2⟩ => ?_⟩
    obtain ⟨_, _, _, _, _, c0, a1⟩ := own2 i t c' z1
    obtain ⟨p', y1, y2, y3, _⟩ := k.own i t c0 a1
    have z2' : σ[i]? = some (some (.ref p)) := z2
    have y1' : σ[i]? = some (some (.ref p')) := y1
    rw [y1'] at z2'
    cases z2'
    obtain ⟨o, ho, _⟩ := y3.there
    have ho' : H p = some o := ho
    have h4' : H p = none := h4
    rw [h4'] at ho'
    cases ho'
def callF (φ : Fn) (as : List ArgF) : EF := fun Γ => (evalArgs as Γ).bind fun avs Γ1 => if (slotsOf avs).Nodup then (ofOpt (mkSV 0 avs Γ1) Γ1).bind fun svs Γ1 => match φ svs with
    | .ok r outs => (ofOpt (backs avs outs Γ1) Γ1).bind fun Γ2 _ => .ok r Γ2
    | .bad => .bad
  else .bad
theorem evalArgs_length : ∀ {as : List ArgF} {Γ Γ' : PD.Env} {avs : List AV}, evalArgs as Γ = .ok avs Γ' → avs.length = as.length
  | [], _, _, _, e => by cases e; rfl
  | a :: as, Γ, Γ', avs, e => by
    obtain ⟨r, Γ1, e1, w1⟩ := Res.of_bind (show (evalArg a Γ).bind _ = _ from e)
    obtain ⟨ds1, Γ2, e2, w2⟩ := Res.of_bind w1
    cases w2
    rw [List.length_cons, List.length_cons, evalArgs_length e2]
theorem callF_te {B : Bx} {φ : Fn} {as : List ArgF} {σ : L2.St} {H : Hp} {Q : VK} {E : XK} {n : Nat} (hn : as.length = n) (h : toTE B (callF φ as) σ H Q) : tCall (spF B.K n φ) [] E (toTAa B as) σ H Q := by
  obtain ⟨F, Γ, r, Γ', k, e, q⟩ := toTE_ok h
  obtain ⟨avs, Γ1, e1, w1⟩ := Res.of_bind e
  split at w1
  · rename_i hd
    obtain ⟨svs, Γ2, e2', w2⟩ := Res.of_bind w1
    obtain ⟨e2, rfl⟩ := of_ofOpt e2'
    split at w2
    · rename_i r' outs e3
      obtain ⟨Γ3, Γ4, e4', w3⟩ := Res.of_bind w2
      obtain ⟨e4, rfl⟩ := of_ofOpt e4'
      cases w3
      refine args_run k e1 fun vs F1 H1 k1 st1 rp => ?_
      show spF B.K n φ (vs ++ []) H1 Q E
      rw [List.append_nil]
      exact call_core k1 rp (by rw [evalArgs_length e1]; exact hn) hd e2 e3 e4 fun v F2 H2 k2 st2 rv => q v F2 H2 k2 (st1.trans st2) (rv.step st1)
    · cases w2
  · cases w1
section
variable {B : Bx} {X : Cx}
theorem ee_call {x : Str} {st : Stmt} {ps : List Str} {j k : Nat} {φ : Fn} {p pos : Pos} {e : Expr} {es : List Expr} {as : List ArgF} (hK : X.K = B.K) (D : Def X.prog X.w X.K X.mg X.base x st ps k φ) (hr : Room j X.A) (hq : X.A.guards = some []) (hj : k ≤ j) (ha : EAs B X (e :: es) as) (hg : Gl X x) (hn : as.length = ps.length := by rfl)
    (hdb : (x == ("__debug__" : Str)) = false := by decide) (he : starEach (e :: es) X.env = (false, eval e X.env) :: starEach es X.env := by rfl) (hpl : (backTo pos (starEach es X.env)).any (·.1) = false := by rfl) :
    EE B X (.Call (.Name x p) (e :: es) [] pos) (callF φ as) := by
  obtain ⟨f, fd, hm, FD, hb, F⟩ := D.ex
  exact PE.imp (pe_callG (E := E0) F (hr.mono hj) hq hg hm FD.kp hb ha hdb he hpl) fun σ H Q q => by
    rw [hK]
    exact callF_te hn q
end
end PD
end

section
set_option maxHeartbeats 4000000
/-! PD9: built-in functions by data. -/
namespace PD
open PySem PySem.Spec PyProof.Rows L2

section
variable {X : Cx}
def intsOf : List PyData → Option (List Int)
  | [] => some []
  | .int i :: r => (intsOf r).map (i :: ·)
  | _ :: _ => none
def boolsOf : List PyData → Option (List Bool)
  | [] => some []
  | .bool i :: r => (boolsOf r).map (i :: ·)
  | _ :: _ => none
theorem intsOf_some : ∀ {ds : List PyData} {ns : List Int}, intsOf ds = some ns → ds = ns.map .int
  | [], ns, h => by cases h; rfl
  | .int i :: r, ns, h => by
    obtain ⟨m, e, rfl⟩ := Option.map_eq_some_iff.mp (show (intsOf r).map _ = _ from h)
    rw [intsOf_some e]
    rfl
  | .none :: _, _, h => by cases h
  | .bool _ :: _, _, h => by cases h
  | .str _ :: _, _, h => by cases h
  | .list _ :: _, _, h => by cases h
  | .tuple _ :: _, _, h => by cases h
  | .dict _ :: _, _, h => by cases h
theorem boolsOf_some : ∀ {ds : List PyData} {ns : List Bool}, boolsOf ds = some ns → ds = ns.map .bool
  | [], ns, h => by cases h; rfl
  | .bool i :: r, ns, h => by
    obtain ⟨m, e, rfl⟩ := Option.map_eq_some_iff.mp (show (boolsOf r).map _ = _ from h)
    rw [boolsOf_some e]
    rfl
  | .none :: _, _, h => by cases h
  | .int _ :: _, _, h => by cases h
  | .str _ :: _, _, h => by cases h
  | .list _ :: _, _, h => by cases h
  | .tuple _ :: _, _, h => by cases h
  | .dict _ :: _, _, h => by cases h
@[simp] theorem intsOf_map (ns : List Int) : intsOf (ns.map .int) = some ns := by
  induction ns with
  | nil => rfl
  | cons n r ih =>
    show (intsOf (r.map .int)).map _ = _
    rw [ih]
    rfl
@[simp] theorem boolsOf_map (ns : List Bool) : boolsOf (ns.map .bool) = some ns := by
  induction ns with
  | nil => rfl
  | cons n r ih =>
    show (boolsOf (r.map .bool)).map _ = _
    rw [ih]
    rfl
theorem repL_ints {K : PySem.W.Frag} {F : Hp} : ∀ {ns : List Int} {vs : List V}, RepL K F (ns.map .int) vs → vs = ns.map .int
  | [], vs, h => h
  | n :: ns, vs, h => by
    obtain ⟨v, r, rfl, h1, h2⟩ := h
    unfold Rep at h1
    rw [h1, repL_ints h2]
    rfl
theorem repL_bools {K : PySem.W.Frag} {F : Hp} : ∀ {ns : List Bool} {vs : List V}, RepL K F (ns.map .bool) vs → vs = ns.map .bl
  | [], vs, h => h
  | n :: ns, vs, h => by
    obtain ⟨v, r, rfl, h1, h2⟩ := h
    unfold Rep at h1
    rw [h1, repL_bools h2]
    rfl

/-! ### len -/
def opLen : List PyData → Option RV
  | [.list xs] => some (.fro (.int xs.length))
  | [.tuple xs] => some (.fro (.int xs.length))
  | [.dict xs] => some (.fro (.int xs.length))
  | [.str x] => if x.length ≤ 1000000 then some (.fro (.int x.length)) else none
  | _ => none
theorem cb_len : CallR X (.builtin "len") (rD X.K opLen) := by
  intro pins s σ H vs us Q I r h
  obtain ⟨F, ds, rv, e, rb, eo, q⟩ := h
  unfold opLen at eo
  split at eo
  · obtain ⟨x, rfl, h1⟩ := rb.one
    cases eo
    obtain ⟨a, ws, rfl, s1, r1⟩ := h1.list e
    exact call_len pins s σ H _ us Q I r ⟨_, ws.length, rfl, .inl ⟨ws, s1, rfl⟩, by rw [r1.length]; exact q _ F H (Grow.refl e) (rvg_int _)⟩
  · obtain ⟨x, rfl, h1⟩ := rb.one
    cases eo
    obtain ⟨a, ws, rfl, s1, r1, _⟩ := h1.tuple e
    exact call_len pins s σ H _ us Q I r ⟨_, ws.length, rfl, .inr ⟨ws, s1, rfl⟩, by rw [r1.length]; exact q _ F H (Grow.refl e) (rvg_int _)⟩
  · obtain ⟨x, rfl, h1⟩ := rb.one
    cases eo
    obtain ⟨a, rfl, h2⟩ := h1.dict e
    obtain ⟨u, rfl, rx⟩ := vals1 r
    cases (show u = Value.ref a from rx)
    rcases h2 with ⟨ks, h3, h4⟩ | ⟨ks, h3, h4⟩
    · obtain ⟨z, hd, ys, rel, dd⟩ := dt_rd I.hok h3
      have hl : ks.length = ys.length := Paired.length rel
      refine call_len_dictH hd dd (by rw [← hl]; rw [sizeLine_eq] at z; omega) ?_
      rw [← hl, h4.length]
      exact ⟨.int _, H, I.tok _, ⟨_, rfl⟩, q _ F H (Grow.refl e) (rvg_int _)⟩
    · refine d_len I h3 fun t s' I' => ?_
      rw [h4.length]
      exact ⟨.int _, H, I', ⟨_, rfl⟩, q _ F H (Grow.refl e) (rvg_int _)⟩
  · split at eo
    · rename_i hz
      obtain ⟨x, rfl, h1⟩ := rb.one
      cases eo
      obtain rfl := h1.str
      exact call_len pins s σ H _ us Q I r ⟨_, _, rfl, ⟨by rw [sizeLine_eq]; omega, rfl⟩, q _ F H (Grow.refl e) (rvg_int _)⟩
    · cases eo
  · cases eo

/-! ### abs, min, max, int, sum, all, any -/
def opAbs : List PyData → Option RV
  | [.int a] => some (.fro (.int (if a < 0 then -a else a)))
  | _ => none
theorem cb_abs : CallR X (.builtin "abs") (rD X.K opAbs) := by
  intro pins s σ H vs us Q I r h
  obtain ⟨F, ds, rv, e, rb, eo, q⟩ := h
  unfold opAbs at eo
  split at eo
  · obtain ⟨x, rfl, h1⟩ := rb.one
    cases eo
    obtain rfl := h1.int
    exact call_abs pins s σ H _ us Q I r ⟨_, rfl, q _ F H (Grow.refl e) (rvg_int _)⟩
  · cases eo
/-- the greatest of some whole numbers -/
def maxI : Int → List Int → Int
  | m, [] => m
  | m, x :: r => maxI (if m < x then x else m) r
def minI : Int → List Int → Int
  | m, [] => m
  | m, x :: r => minI (if x < m then x else m) r
theorem maxI_ok : ∀ (r : List Int) (m : Int), (maxI m r = m ∨ maxI m r ∈ r) ∧ m ≤ maxI m r ∧ ∀ y, y ∈ r → y ≤ maxI m r
  | [], m => ⟨.inl rfl, Int.le_refl _, fun y hy => by simp at hy⟩
  | x :: r, m => by
    obtain ⟨h1, h2, h3⟩ := maxI_ok r (if m < x then x else m)
    have hm : maxI m (x :: r) = maxI (if m < x then x else m) r := rfl
    rw [hm]
    generalize maxI (if m < x then x else m) r = z at h1 h2 h3
    refine ⟨?_, ?_, fun y hy => ?_⟩
    · rcases h1 with h1 | h1
      · split at h1
        · rw [h1]
          exact .inr List.mem_cons_self
        · exact .inl h1
      · exact .inr (List.mem_cons_of_mem _ h1)
    · split at h2 <;> omega
    · rcases List.mem_cons.mp hy with rfl | hy
      · split at h2 <;> omega
      · exact h3 y hy
theorem minI_ok : ∀ (r : List Int) (m : Int), (minI m r = m ∨ minI m r ∈ r) ∧ minI m r ≤ m ∧ ∀ y, y ∈ r → minI m r ≤ y
  | [], m => ⟨.inl rfl, Int.le_refl _, fun y hy => by simp at hy⟩
  | x :: r, m => by
    obtain ⟨h1, h2, h3⟩ := minI_ok r (if x < m then x else m)
    have hm : minI m (x :: r) = minI (if x < m then x else m) r := rfl
    rw [hm]
    generalize minI (if x < m then x else m) r = z at h1 h2 h3
    refine ⟨?_, ?_, fun y hy => ?_⟩
    · rcases h1 with h1 | h1
      · split at h1
        · rw [h1]
          exact .inr List.mem_cons_self
        · exact .inl h1
      · exact .inr (List.mem_cons_of_mem _ h1)
    · split at h2 <;> omega
    · rcases List.mem_cons.mp hy with rfl | hy
      · split at h2 <;> omega
      · exact h3 y hy
def opMax : List PyData → Option RV
  | [.int a, .int b] => some (.fro (.int (if b > a then b else a)))
  | [.list xs] => (intsOf xs).bind fun ns => match ns with
    | [] => none
    | n :: r => some (.fro (.int (maxI n r)))
  | _ => none
def opMin : List PyData → Option RV
  | [.int a, .int b] => some (.fro (.int (if b < a then b else a)))
  | [.list xs] => (intsOf xs).bind fun ns => match ns with
    | [] => none
    | n :: r => some (.fro (.int (minI n r)))
  | _ => none
theorem ints_two' {K : PySem.W.Frag} {F H : Hp} {a b : Int} {vs : List V} (h : RepBs K F H [.int a, .int b] vs) : vs = [.int a, .int b] := by
  obtain ⟨x', y', rfl, h1, h2⟩ := h.two
  rw [h1.int, h2.int]
theorem cb_max (hc : X.calm = true) : CallR X (.builtin "max") (rD X.K opMax) := by
  intro pins s σ H vs us Q I r h
  obtain ⟨F, ds, rv, e, rb, eo, q⟩ := h
  unfold opMax at eo
  split at eo
  · obtain rfl := ints_two' rb
    cases eo
    exact call_max2 hc pins s σ H _ us Q I r ⟨_, _, rfl, q _ F H (Grow.refl e) (rvg_int _)⟩
  · obtain ⟨x, rfl, h1⟩ := rb.one
    obtain ⟨a, ws, rfl, s1, r1⟩ := h1.list e
    obtain ⟨ns, en, eo2⟩ := Option.bind_eq_some_iff.mp eo
    have ed := intsOf_some en
    subst ed
    have ew := repL_ints r1
    subst ew
    split at eo2
    · cases eo2
    · rename_i n m
      cases eo2
      refine cr_max hc pins s σ H _ us Q I r ⟨a, n :: m, rfl, s1, by simp, fun z hz hall => ?_⟩
      obtain ⟨k1, k2, k3⟩ := maxI_ok m n
      have ez : z = maxI n m := by
        have h1 : maxI n m ≤ z := by
          rcases k1 with k1 | k1
          · rw [k1]
            exact hall n List.mem_cons_self
          · exact hall _ (List.mem_cons_of_mem _ k1)
        have h2 : z ≤ maxI n m := by
          rcases List.mem_cons.mp hz with rfl | hz
          · exact k2
          · exact k3 z hz
        omega
      rw [ez]
      exact q _ F H (Grow.refl e) (rvg_int _)
  · cases eo
theorem cb_min (hc : X.calm = true) : CallR X (.builtin "min") (rD X.K opMin) := by
  intro pins s σ H vs us Q I r h
  obtain ⟨F, ds, rv, e, rb, eo, q⟩ := h
  unfold opMin at eo
  split at eo
  · obtain rfl := ints_two' rb
    cases eo
    exact call_min2 hc pins s σ H _ us Q I r ⟨_, _, rfl, q _ F H (Grow.refl e) (rvg_int _)⟩
  · obtain ⟨x, rfl, h1⟩ := rb.one
    obtain ⟨a, ws, rfl, s1, r1⟩ := h1.list e
    obtain ⟨ns, en, eo2⟩ := Option.bind_eq_some_iff.mp eo
    have ed := intsOf_some en
    subst ed
    have ew := repL_ints r1
    subst ew
    split at eo2
    · cases eo2
    · rename_i n m
      cases eo2
      refine cr_min hc pins s σ H _ us Q I r ⟨a, n :: m, rfl, s1, by simp, fun z hz hall => ?_⟩
      obtain ⟨k1, k2, k3⟩ := minI_ok m n
      have ez : z = minI n m := by
        have h1 : z ≤ minI n m := by
          rcases k1 with k1 | k1
          · rw [k1]
            exact hall n List.mem_cons_self
          · exact hall _ (List.mem_cons_of_mem _ k1)
        have h2 : minI n m ≤ z := by
          rcases List.mem_cons.mp hz with rfl | hz
          · exact k2
          · exact k3 z hz
        omega
      rw [ez]
      exact q _ F H (Grow.refl e) (rvg_int _)
  · cases eo
def opInt : List PyData → Option RV
  | [.int a] => some (.fro (.int a))
  | [.bool b] => some (.fro (.int (if b then 1 else 0)))
  | _ => none
theorem ct_int : CallR X (.type "int") (rD X.K opInt) := by
  intro pins s σ H vs us Q I r h
  obtain ⟨F, ds, rv, e, rb, eo, q⟩ := h
  unfold opInt at eo
  split at eo
  · obtain ⟨x, rfl, h1⟩ := rb.one
    cases eo
    obtain rfl := h1.int
    exact call_int1 pins s σ H _ us Q I r (.inl ⟨_, rfl, q _ F H (Grow.refl e) (rvg_int _)⟩)
  · obtain ⟨x, rfl, h1⟩ := rb.one
    cases eo
    obtain rfl := h1.bool
    exact call_int1 pins s σ H _ us Q I r (.inr ⟨_, rfl, q _ F H (Grow.refl e) (rvg_int _)⟩)
  · cases eo
def opSum : List PyData → Option RV
  | [.list xs] => (intsOf xs).map fun ns => .fro (.int ns.sum)
  | _ => none
theorem cb_sum (hc : X.calm = true) : CallR X (.builtin "sum") (rD X.K opSum) := by
  intro pins s σ H vs us Q I r h
  obtain ⟨F, ds, rv, e, rb, eo, q⟩ := h
  unfold opSum at eo
  split at eo
  · obtain ⟨x, rfl, h1⟩ := rb.one
    obtain ⟨a, ws, rfl, s1, r1⟩ := h1.list e
    obtain ⟨ns, en, rfl⟩ := Option.map_eq_some_iff.mp eo
    have ed := intsOf_some en
    subst ed
    have ew := repL_ints r1
    subst ew
    exact cr_sum hc pins s σ H _ us Q I r ⟨a, ns, rfl, s1, q _ F H (Grow.refl e) (rvg_int _)⟩
  · cases eo
def opAll : List PyData → Option RV
  | [.list xs] => (boolsOf xs).map fun ns => .fro (.bool (ns.all id))
  | _ => none
def opAny : List PyData → Option RV
  | [.list xs] => (boolsOf xs).map fun ns => .fro (.bool (ns.any id))
  | _ => none
theorem cb_all (hc : X.calm = true) : CallR X (.builtin "all") (rD X.K opAll) := by
  intro pins s σ H vs us Q I r h
  obtain ⟨F, ds, rv, e, rb, eo, q⟩ := h
  unfold opAll at eo
  split at eo
  · obtain ⟨x, rfl, h1⟩ := rb.one
    obtain ⟨a, ws, rfl, s1, r1⟩ := h1.list e
    obtain ⟨ns, en, rfl⟩ := Option.map_eq_some_iff.mp eo
    have ed := boolsOf_some en
    subst ed
    have ew := repL_bools r1
    subst ew
    exact cr_all hc pins s σ H _ us Q I r ⟨a, ns, rfl, s1, q _ F H (Grow.refl e) (rvg_bl _)⟩
  · cases eo
theorem cb_any (hc : X.calm = true) : CallR X (.builtin "any") (rD X.K opAny) := by
  intro pins s σ H vs us Q I r h
  obtain ⟨F, ds, rv, e, rb, eo, q⟩ := h
  unfold opAny at eo
  split at eo
  · obtain ⟨x, rfl, h1⟩ := rb.one
    obtain ⟨a, ws, rfl, s1, r1⟩ := h1.list e
    obtain ⟨ns, en, rfl⟩ := Option.map_eq_some_iff.mp eo
    have ed := boolsOf_some en
    subst ed
    have ew := repL_bools r1
    subst ew
    exact cr_any hc pins s σ H _ us Q I r ⟨a, ns, rfl, s1, q _ F H (Grow.refl e) (rvg_bl _)⟩
  · cases eo

/-! ### isinstance(e, T), T a built-in class -/
def tyOf : PyData → String
  | .none => "NoneType"
  | .bool _ => "bool"
  | .int _ => "int"
  | .str _ => "str"
  | .list _ => "list"
  | .tuple _ => "tuple"
  | .dict _ => "dict"
def isT (T : String) (d : PyData) : Bool := tyOf d == T || (T == "int" && tyOf d == "bool")
def okT (T : String) : Bool := ["int", "bool", "str", "list", "tuple", "dict"].contains T
theorem kit_data {pins : List (Addr × Obj)} {σ : L2.St} {H : Hp} {s : Shared} (I : Inv X pins σ H s) {d : PyData} {v : V} {u : Value} (h : Rep X.K H d v) (r : RelV v u) :
    ∃ P : Heap → Prop, PySem.W.KitX X.K u (.type (tyOf d)) P ∧ P s.heap ∧ u ≠ .builtin "__main__.__loader__#opaque" := by
  cases d with
  | none =>
    unfold Rep at h
    subst h
    cases (show u = Value.none from r)
    exact ⟨_, PySem.W.kitx_none, True.intro, fun z => nomatch z⟩
  | bool b =>
    unfold Rep at h
    subst h
    cases (show u = Value.bool b from r)
    exact ⟨_, PySem.W.kitx_bool, True.intro, fun z => nomatch z⟩
  | int i =>
    unfold Rep at h
    subst h
    obtain ⟨t, q⟩ := (show ∃ t, u = Value.int i t from r)
    cases q
    exact ⟨_, PySem.W.kitx_int, True.intro, fun z => nomatch z⟩
  | str i =>
    unfold Rep at h
    subst h
    obtain ⟨t, q⟩ := (show ∃ t, u = Value.str i t from r)
    cases q
    exact ⟨_, PySem.W.kitx_str, True.intro, fun z => nomatch z⟩
  | list ds =>
    obtain ⟨a, vs, rfl, h1, h2⟩ := h
    cases (show u = Value.ref a from r)
    obtain ⟨its, _, ⟨o, n, e1, e2, _⟩, _⟩ := I.list h1.sq
    exact ⟨_, PySem.W.kitx_list, ⟨o, e1, e2⟩, fun z => nomatch z⟩
  | tuple ds =>
    obtain ⟨a, vs, rfl, h1, h2⟩ := h
    cases (show u = Value.ref a from r)
    obtain ⟨its, _, ⟨o, e1, e2, _⟩, _⟩ := I.tuple h1.sq
    exact ⟨_, PySem.W.kitx_tuple, ⟨o, e1, e2⟩, fun z => nomatch z⟩
  | dict ds =>
    obtain ⟨a, rfl, h1⟩ := h
    cases (show u = Value.ref a from r)
    rcases h1 with ⟨ks, h1, _⟩ | ⟨ks, h1, _⟩
    · obtain ⟨_, _, xs, _, o, es, ep, e1, e2, _⟩ := dt_rd I.hok h1
      exact ⟨_, PySem.W.kitx_dict, ⟨o, e1, e2.1⟩, fun z => nomatch z⟩
    · obtain ⟨_, _, xs, _, o, es, ep, e1, e2, _⟩ := dk_rd I.hok h1
      exact ⟨_, PySem.W.kitx_dict, ⟨o, e1, e2.1⟩, fun z => nomatch z⟩
theorem kitB_isT {T : String} (hT : okT T = true) (d : PyData) : kitB (tyOf d) T = some (isT T d) := by
  have hm : T ∈ ["int", "bool", "str", "list", "tuple", "dict"] := by
    unfold okT at hT
    exact List.contains_iff_mem.mp hT
  have key : ∀ a ∈ ["NoneType", "bool", "int", "str", "list", "tuple", "dict"], ∀ b ∈ ["int", "bool", "str", "list", "tuple", "dict"], kitB a b = some (a == b || (b == "int" && a == "bool")) := by decide +kernel
  have hd : tyOf d ∈ ["NoneType", "bool", "int", "str", "list", "tuple", "dict"] := by cases d <;> simp [tyOf]
  exact key _ hd _ hm
def rIsiD (K : PySem.W.Frag) (T : String) : List V → Hp → VK → Prop := fun vs H Q => ∃ F d x, vs = [x, .ty T] ∧ Ext F H ∧ RepB K F H d x ∧ okT T = true ∧ Q (.bl (isT T d)) H
theorem cb_isi {T : String} : CallR X (.builtin "isinstance") (rIsiD X.K T) := by
  intro pins s σ H vs us Q I r h
  obtain ⟨F, d, x, rfl, e, rb, hT, q⟩ := h
  obtain ⟨u1, u2, rfl, r1, r2⟩ := vals2 r
  cases (show u2 = Value.type T from r2)
  obtain ⟨P, Z, p, hx⟩ := kit_data I (rb.rep e) r1
  exact PySem.W.kia_one Z I.kIn p (kit_ty (kitB_isT hT d)) hx fun tk => ⟨.bl _, H, I.tok tk, rfl, q⟩
def isiF (T : String) (a : ArgF) : EF := fun Γ => (evalArg a Γ).bind fun av Γ' => (ofOpt (av.get Γ') Γ').bind fun d Γ' => .ok (.fro (.bool (isT T d))) Γ'
theorem ee_isi {B : Bx} {T : String} {x : Str} {e : Expr} {a : ArgF} {p p2 pos : Pos} (hK : X.K = B.K) (ha : EA B X e a) (hT : okT T = true) (hg : Gl X "isinstance") (hm : X.mg "isinstance" = none) (hg2 : Gl X x) (hm2 : X.mg x = none) (hv : bootBuiltins x = some (.type T)) (hv0 : bootBuiltins "isinstance" = some (.builtin "isinstance"))
    (hn : x ≠ "__name__" := by decide) (hdb : (x == ("__debug__" : Str)) = false := by decide)
    (h1 : starEach [e, .Name x p2] X.env = (false, eval e X.env) :: starEach [.Name x p2] X.env := by rfl) (h2 : starEach [.Name x p2] X.env = (false, eval (.Name x p2) X.env) :: starEach [] X.env := by rfl) (hpl : (backTo pos (starEach [.Name x p2] X.env)).any (·.1) = false := by rfl) :
    EE B X (.Call (.Name "isinstance" p) [e, .Name x p2] [] pos) (isiF T a) :=
  PE.imp (pe_callB (cb_isi (T := T)) hg hm hv0 (pa_cons ha (pa_cons (pe_bltn (v := .ty T) hg2 hm2 hv rfl hn hdb) pa_nil h2) h1) (he := h1) (hpl := hpl)) fun σ H Q q => by
    obtain ⟨F, Γ, r, Γ', k, e, q⟩ := toTE_ok q
    obtain ⟨av, Γ1, e1, w1⟩ := Res.of_bind e
    obtain ⟨d, Γ2, e2', w2⟩ := Res.of_bind w1
    obtain ⟨e2, rfl⟩ := of_ofOpt e2'
    cases w2
    refine arg_run k e1 fun v F1 H1 k1 st1 rp => ?_
    rw [hK]
    exact ⟨F1, d, v, rfl, k1.ext, RepAV.get k1 rp e2, hT, q _ F1 H1 k1 st1 (rvg_bl (H' := H1) (H := H1) _)⟩

/-! ### n.bit_length() -/
def bitsF (f : EF) : EF := fun Γ => (f Γ).bind fun r Γ' => (ofOpt (asInt r.toD) Γ').bind fun i Γ' => .ok (.fro (.int (Builtin.Int.intBits i : Nat))) Γ'
theorem ee_bits {B : Bx} {o : Expr} {f : EF} {apos pos : Pos} (ho : EE B X o f) (hbase : attributeBase o "bit_length" X.env (eval o X.env) = eval o X.env := by rfl) (hline : (apos.endLine == pos.line) = true := by rfl) : EE B X (.Call (.Attribute o "bit_length" apos) [] [] pos) (bitsF f) :=
  PE.imp (pe_bits ho hbase hline) fun σ H Q q => by
    obtain ⟨F, Γ, r, Γ', k, e, q⟩ := toTE_ok q
    obtain ⟨r1, Γ1, e1, w1⟩ := Res.of_bind e
    obtain ⟨i, Γ2, e2', w2⟩ := Res.of_bind w1
    obtain ⟨e2, rfl⟩ := of_ofOpt e2'
    cases w2
    refine toTE_fro k e1 fun v F1 H1 k1 st1 rp => ?_
    rw [asInt_some e2] at rp
    unfold Rep at rp
    exact ⟨i, rp, q _ F1 H1 k1 st1 (rvg_int (H' := H1) (H := H1) _)⟩
end
end PD
end

section
set_option maxHeartbeats 4000000
/-! PD10: list comprehensions. -/
namespace PD
open PySem PySem.Spec PyProof.Rows L2

/-! ### slots forgotten and brought back -/
def wipeE : Env → List Nat → Env
  | Γ, [] => Γ
  | Γ, v :: vs => (wipeE Γ vs).set v none
def backE (Γ0 : Env) : List Nat → Env → Env
  | [], Γ => Γ
  | v :: vs, Γ => (backE Γ0 vs Γ).set v ((Γ0[v]?).getD none)
theorem wipeE_length (Γ : Env) : ∀ vs : List Nat, (wipeE Γ vs).length = Γ.length
  | [] => rfl
  | v :: vs => by
    unfold wipeE
    rw [List.length_set, wipeE_length Γ vs]
theorem backE_length (Γ0 Γ : Env) : ∀ vs : List Nat, (backE Γ0 vs Γ).length = Γ.length
  | [] => rfl
  | v :: vs => by
    unfold backE
    rw [List.length_set, backE_length Γ0 Γ vs]
theorem wipeE_some {Γ : Env} {i : Nat} {x : SV} : ∀ {vs : List Nat}, (wipeE Γ vs)[i]? = some (some x) → Γ[i]? = some (some x) ∧ i ∉ vs
  | [], h => ⟨h, by simp⟩
  | v :: vs, h => by
    unfold wipeE at h
    by_cases hi : v = i
    · subst hi
      by_cases hv : v < (wipeE Γ vs).length
      · rw [List.getElem?_set_self hv] at h
        cases h
      · rw [List.getElem?_eq_none (by simpa using hv)] at h
        cases h
    · rw [List.getElem?_set_ne hi] at h
      obtain ⟨h1, h2⟩ := wipeE_some h
      refine ⟨h1, fun m => ?_⟩
      rcases List.mem_cons.mp m with e | m
      · exact hi e.symm
      · exact h2 m
theorem backE_some {Γ0 Γ : Env} {i : Nat} {x : SV} : ∀ {vs : List Nat}, (backE Γ0 vs Γ)[i]? = some (some x) → (i ∈ vs ∧ Γ0[i]? = some (some x)) ∨ (i ∉ vs ∧ Γ[i]? = some (some x))
  | [], h => .inr ⟨by simp, h⟩
  | v :: vs, h => by
    unfold backE at h
    by_cases hi : v = i
    · subst hi
      by_cases hv : v < (backE Γ0 vs Γ).length
      · rw [List.getElem?_set_self hv] at h
        refine .inl ⟨List.mem_cons_self, ?_⟩
        have h' : (Γ0[v]?).getD none = some x := Option.some.inj h
        cases e : Γ0[v]? with
        | none =>
          rw [e] at h'
          cases h'
        | some y =>
          rw [e] at h'
          have h2 : y = some x := h'
          rw [h2]
      · rw [List.getElem?_eq_none (by simpa using hv)] at h
        cases h
    · rw [List.getElem?_set_ne hi] at h
      rcases backE_some h with ⟨h1, h2⟩ | ⟨h1, h2⟩
      · exact .inl ⟨List.mem_cons_of_mem _ h1, h2⟩
      · refine .inr ⟨fun m => ?_, h2⟩
        rcases List.mem_cons.mp m with e | m
        · exact hi e.symm
        · exact h1 m
theorem wipe_in {σ : L2.St} {i : Nat} (hl : i < σ.length) : ∀ {vs : List Nat}, i ∈ vs → (wipe σ vs)[i]? = some none
  | v :: vs, h => by
    unfold wipe
    by_cases hi : v = i
    · subst hi
      rw [List.getElem?_set_self (by rw [wipe_length]; exact hl)]
    · rw [List.getElem?_set_ne hi]
      rcases List.mem_cons.mp h with e | m
      · exact (hi e.symm).elim
      · exact wipe_in hl m
theorem wipe_eq {σ σ' : L2.St} {vs : List Nat} (hl : σ'.length = σ.length) (h : ∀ i, i ∉ vs → σ'[i]? = σ[i]?) : wipe σ' vs = wipe σ vs := by
  refine List.ext_getElem? fun i => ?_
  by_cases hi : i ∈ vs
  · by_cases hb : i < σ.length
    · rw [wipe_in hb hi, wipe_in (by rw [hl]; exact hb) hi]
    · rw [List.getElem?_eq_none (by rw [wipe_length, hl]; exact Nat.le_of_not_lt hb), List.getElem?_eq_none (by rw [wipe_length]; exact Nat.le_of_not_lt hb)]
  · rw [wipe_out hi, wipe_out hi, h i hi]
theorem wipe_wipe (σ : L2.St) (vs : List Nat) : wipe (wipe σ vs) vs = wipe σ vs := wipe_eq (wipe_length σ vs) fun i hi => wipe_out hi
theorem own_wipe {Γ : Env} {σ : L2.St} {vs : List Nat} {p : Addr} (h : IsOwn (wipeE Γ vs) (wipe σ vs) p) : IsOwn Γ σ p := by
  obtain ⟨i, t, c, h1, h2⟩ := h
  exact ⟨i, t, c, (wipeE_some h1).1, (wipe_some h2).1⟩
section
variable {B : Bx} {F H : Hp} {σ : L2.St} {Γ : Env} {vs : List Nat}
theorem Ok.wipe (k : Ok B ⟨F, H, σ, Γ⟩) (vs : List Nat) : Ok B ⟨F, H, L2.wipe σ vs, wipeE Γ vs⟩ := by
  refine ⟨k.ext, ?_, fun i d e => ?_, fun i t c e => ?_, fun i j t t' c c' p e1 e2 e3 e4 => ?_, k.dom⟩
  · show (L2.wipe σ vs).length = (wipeE Γ vs).length
    rw [wipe_length, wipeE_length]
    exact k.len
  · obtain ⟨e1, e2⟩ := wipeE_some e
    obtain ⟨v, h1, h2⟩ := k.fro i d e1
    exact ⟨v, by rw [← h1]; exact wipe_out e2, h2⟩
  · obtain ⟨e1, e2⟩ := wipeE_some e
    obtain ⟨p, h1, h2⟩ := k.own i t c e1
    exact ⟨p, by rw [← h1]; exact wipe_out e2, h2⟩
  · exact k.dis i j t t' c c' p (wipeE_some e1).1 (wipeE_some e2).1 (wipe_some e3).1 (wipe_some e4).1
theorem Step.wipe (F H : Hp) (σ : L2.St) (Γ : Env) (vs : List Nat) : Step ⟨F, H, σ, Γ⟩ ⟨F, H, L2.wipe σ vs, wipeE Γ vs⟩ :=
  ⟨Same.refl _, fun _ _ h _ => h, fun _ o h => ⟨o, h⟩, fun p h => .inl (own_wipe h), fun _ _ h => .inl h⟩
/-- the slots brought back behind a block -/
theorem Ok.back {F1 H1 : Hp} {Γ1 : Env} (k0 : Ok B ⟨F, H, σ, Γ⟩) (st : Step ⟨F, H, L2.wipe σ vs, wipeE Γ vs⟩ ⟨F1, H1, L2.wipe σ vs, Γ1⟩) (k1 : Ok B ⟨F1, H1, L2.wipe σ vs, Γ1⟩) :
    Ok B ⟨F1, H1, σ, backE Γ vs Γ1⟩ ∧ Step ⟨F, H, σ, Γ⟩ ⟨F1, H1, σ, backE Γ vs Γ1⟩ ∧ ∀ p, IsOwn (backE Γ vs Γ1) σ p → IsOwn Γ1 (L2.wipe σ vs) p ∨ IsOwn Γ σ p := by
  have hl : Γ1.length = σ.length := by
    have e := k1.len
    simp only [wipe_length] at e
    exact e.symm
  -- what stood in a forgotten slot
  have old : ∀ (i : Nat) t c p, i ∈ vs → Γ[i]? = some (some (.own t c)) → σ[i]? = some (some (.ref p)) → ¬ IsOwn (wipeE Γ vs) (L2.wipe σ vs) p := fun i t c p hi e1 e2 => by
    rintro ⟨j, t', c', q1, q2⟩
    obtain ⟨q1, q3⟩ := wipeE_some q1
    have e := k0.dis i j t t' c c' p e1 q1 e2 (wipe_some q2).1
    exact q3 (e ▸ hi)
  have cas : ∀ p, IsOwn (backE Γ vs Γ1) σ p → IsOwn Γ1 (L2.wipe σ vs) p ∨ IsOwn Γ σ p := fun p h => by
    obtain ⟨i, t, c, e1, e2⟩ := h
    rcases backE_some e1 with ⟨hi, e⟩ | ⟨hi, e⟩
    · exact .inr ⟨i, t, c, e, e2⟩
    · exact .inl ⟨i, t, c, e, by rw [wipe_out hi]; exact e2⟩
  refine ⟨⟨k1.ext, by show σ.length = (backE Γ vs Γ1).length; rw [backE_length]; exact hl.symm, fun i d e => ?_, fun i t c e => ?_, fun i j t t' c c' p e1 e2 e3 e4 => ?_, k1.dom⟩, ⟨st.same, fun p o h n => st.fr p o h fun z => n (own_wipe z), st.th, fun p h => ?_, fun p o h => ?_⟩, cas⟩
  · rcases backE_some e with ⟨hi, e⟩ | ⟨hi, e⟩
    · obtain ⟨v, h1, h2⟩ := k0.fro i d e
      exact ⟨v, h1, h2.same st.same⟩
    · obtain ⟨v, h1, h2⟩ := k1.fro i d e
      exact ⟨v, by rw [← h1]; exact (wipe_out hi).symm, h2⟩
  · rcases backE_some e with ⟨hi, e⟩ | ⟨hi, e⟩
    · obtain ⟨p, h1, h2, h3, h4⟩ := k0.own i t c e
      have no := old i t c p hi e h1
      refine ⟨p, h1, ?_, h3.keep st.same fun o q => st.fr p o q no, h4⟩
      obtain ⟨o, ho, hm⟩ := h3.there
      have h1p : H1 p = some o := st.fr p o ho no
      show F1 p = none
      cases q : F1 p with
      | none => rfl
      | some x =>
        rcases st.fh p x q with z | z | z | z
        · have z' : F p = none := h2
          have z2 : F p = some x := z
          rw [z'] at z2
          cases z2
        · exact (no z).elim
        · have z' : H p = some o := ho
          have z2 : H p = none := z
          rw [z'] at z2
          cases z2
        · exact (z (k1.ext.immut q h1p hm)).elim
    · obtain ⟨p, h1, h2⟩ := k1.own i t c e
      exact ⟨p, by rw [← h1]; exact (wipe_out hi).symm, h2⟩
  · have mix : ∀ (i j : Nat) t t' c c', i ∈ vs → Γ[i]? = some (some (.own t c)) → j ∉ vs → Γ1[j]? = some (some (.own t' c')) → σ[i]? = some (some (.ref p)) → σ[j]? = some (some (.ref p)) → False := fun i j t t' c c' hi e1 hj e2 e3 e4 => by
      obtain ⟨p', h1, h2, h3, _⟩ := k0.own i t c e1
      have h1' : σ[i]? = some (some (.ref p')) := h1
      rw [h1'] at e3
      have ep : p' = p := by
        injection e3 with e3
        injection e3 with e3
        injection e3
      subst ep
      obtain ⟨o, ho, _⟩ := h3.there
      rcases st.ow p' ⟨j, t', c', e2, by show (L2.wipe σ vs)[j]? = _; rw [wipe_out hj]; exact e4⟩ with z | z
      · exact old i t c p' hi e1 h1 z
      · have z' : H p' = some o := ho
        have z2 : H p' = none := z
        rw [z'] at z2
        cases z2
    rcases backE_some e1 with ⟨hi, e1⟩ | ⟨hi, e1⟩ <;> rcases backE_some e2 with ⟨hj, e2⟩ | ⟨hj, e2⟩
    · exact k0.dis i j t t' c c' p e1 e2 e3 e4
    · exact (mix i j t t' c c' hi e1 hj e2 e3 e4).elim
    · exact (mix j i t' t c' c hj e2 hi e1 e4 e3).elim
    · exact k1.dis i j t t' c c' p e1 e2 (by show (L2.wipe σ vs)[i]? = _; rw [wipe_out hi]; exact e3) (by show (L2.wipe σ vs)[j]? = _; rw [wipe_out hj]; exact e4)
  · rcases cas p h with z | z
    · rcases st.ow p z with y | y
      · exact .inl (own_wipe y)
      · exact .inr y
    · exact .inl z
  · rcases st.fh p o h with z | z | z | z
    · exact .inl z
    · exact .inr (.inl (own_wipe z))
    · exact .inr (.inr (.inl z))
    · exact .inr (.inr (.inr z))

/-! ### an object of nobody's, changed by the walk itself -/
structure Lone (s : Sx) (D : Addr) (o : HO) : Prop where
  at_ : s.H D = some o
  mut_ : Mut (some o)
  nF : s.F D = none
  nO : ¬ IsOwn s.Γ s.σ D
theorem Lone.step {s s' : Sx} {D : Addr} {o : HO} (l : Lone s D o) (st : Step s s') (k' : Ok B s') : Lone s' D o := by
  have h := st.fr D o l.at_ l.nO
  refine ⟨h, l.mut_, ?_, fun z => ?_⟩
  · cases q : s'.F D with
    | none => rfl
    | some x =>
      rcases st.fh D x q with z | z | z | z
      · rw [l.nF] at z
        cases z
      · exact (l.nO z).elim
      · rw [l.at_] at z
        cases z
      · exact (z (k'.ext.immut q h l.mut_)).elim
  · rcases st.ow D z with y | y
    · exact l.nO y
    · rw [l.at_] at y
      cases y
theorem Lone.put {D : Addr} {o o' : HO} {s0 : Sx} (l : Lone ⟨F, H, σ, Γ⟩ D o) (hm : Mut (some o')) (k : Ok B ⟨F, H, σ, Γ⟩) (st : Step s0 ⟨F, H, σ, Γ⟩) (hD : s0.H D = none) :
    Ok B ⟨F, upd H D o', σ, Γ⟩ ∧ Step s0 ⟨F, upd H D o', σ, Γ⟩ ∧ Lone ⟨F, upd H D o', σ, Γ⟩ D o' := by
  have nF : F D = none := l.nF
  refine ⟨⟨fun b x q => ?_, k.len, k.fro, fun i t c e => ?_, k.dis, fun p x h => ?_⟩, ⟨st.same, fun p x h n => ?_, fun p x h => ?_, st.ow, st.fh⟩, ⟨upd_same, hm, nF, l.nO⟩⟩
  · have hb : b ≠ D := ne_of_none q nF
    show upd H D o' b = some x ∨ (Mut (some x) ∧ ∃ ob, upd H D o' b = some (.frz ob x))
    rw [upd_ne hb]
    exact k.ext b x q
  · obtain ⟨p, h1, h2, h3, h4⟩ := k.own i t c e
    have hp : p ≠ D := fun z => l.nO ⟨i, t, c, e, by rw [← z]; exact h1⟩
    exact ⟨p, h1, h2, h3.keep (Same.refl _) fun x q => by show upd H D o' p = _; rw [upd_ne hp]; exact q, h4⟩
  · by_cases hp : p = D
    · subst hp
      exact ⟨_, upd_same⟩
    · show ∃ y, upd H D o' p = some y
      rw [upd_ne hp]
      exact k.dom p x h
  · have hp : p ≠ D := ne_of_none h hD
    show upd H D o' p = _
    rw [upd_ne hp]
    exact st.fr p x h n
  · have hp : p ≠ D := ne_of_none h hD
    show ∃ y, upd H D o' p = some y
    rw [upd_ne hp]
    exact st.th p x h
theorem Lone.new {D : Addr} {o : HO} (k : Ok B ⟨F, H, σ, Γ⟩) (hD : H D = none) (hm : Mut (some o)) : Ok B ⟨F, upd H D o, σ, Γ⟩ ∧ Step ⟨F, H, σ, Γ⟩ ⟨F, upd H D o, σ, Γ⟩ ∧ Lone ⟨F, upd H D o, σ, Γ⟩ D o := by
  obtain ⟨k', st'⟩ := k.grow (Grow.new k.ext o hD)
  refine ⟨k', st', upd_same, hm, k.ext.none hD, ?_⟩
  rintro ⟨i, t, c, e1, e2⟩
  obtain ⟨q, q1, _, q3, _⟩ := k.own i t c e1
  have q1' : σ[i]? = some (some (.ref q)) := q1
  have e2' : σ[i]? = some (some (.ref D)) := e2
  rw [q1'] at e2'
  cases e2'
  obtain ⟨x, hx, _⟩ := q3.there
  have hx' : H D = some x := hx
  rw [hD] at hx'
  cases hx'
theorem Lone.wipe {D : Addr} {o : HO} (l : Lone ⟨F, H, σ, Γ⟩ D o) : Lone ⟨F, H, L2.wipe σ vs, wipeE Γ vs⟩ D o := ⟨l.at_, l.mut_, l.nF, fun z => l.nO (own_wipe z)⟩
end

/-! ### targets in a block -/
def toTGw (B : Bx) (vs : List Nat) (g : GF) : TG := fun v σ H Q => ∃ F Γ d Γ', Ok B ⟨F, H, σ, Γ⟩ ∧ Rep B.K F d v ∧ g d Γ = some Γ' ∧ ∀ σ' F' H', wipe σ' vs = wipe σ vs → Ok B ⟨F', H', σ', Γ'⟩ → Step ⟨F, H, σ, Γ⟩ ⟨F', H', σ', Γ'⟩ → Q σ' H'
def toTGws (B : Bx) (vs : List Nat) (g : GFs) : TGs := fun ws σ H Q => ∃ F Γ ds Γ', Ok B ⟨F, H, σ, Γ⟩ ∧ RepL B.K F ds ws ∧ g ds Γ = some Γ' ∧ ∀ σ' F' H', wipe σ' vs = wipe σ vs → Ok B ⟨F', H', σ', Γ'⟩ → Step ⟨F, H, σ, Γ⟩ ⟨F', H', σ', Γ'⟩ → Q σ' H'
abbrev GW (B : Bx) (X : Cx) (vs : List Nat) (t : Expr) (g : GF) : Prop := PG X t (toTGw B vs g)
abbrev GWs (B : Bx) (X : Cx) (vs : List Nat) (t : List Expr) (g : GFs) : Prop := PGs X t (toTGws B vs g)
section
variable {B : Bx} {X : Cx} {vs : List Nat}
theorem gw_name (i : Nat) {x : Str} {pos : Pos} (hN : X.N.Nodup) (hv : i ∈ vs := by decide) (hi : X.N[i]? = some x := by rfl) (hx : Loc X.env.scope x := by first | exact Or.inl rfl | exact Or.inr rfl) (hf : X.fn x = true ∨ X.env.scope.names.lookup x = some .local := by first | exact .inl rfl | exact .inr rfl | assumption) : GW B X vs (.Name x pos) (nameG i) :=
  PG.imp (pg_name hN hi hx hf) fun v σ H Q ⟨F, Γ, d, Γ', k, r, e, q⟩ => by
    cases e
    refine q _ F H (wipe_eq (by rw [List.length_set]) fun j hj => ?_) (k.set_fro r) ((Step.refl _).set fun p z => .inl (IsOwn.set_fro z))
    exact List.getElem?_set_ne fun z => hj (by rw [← z]; exact hv)
theorem gws_nil : GWs B X vs [] nilG := PGs.imp pgs_nil fun ws σ H Q ⟨F, Γ, ds, Γ', k, r, e, q⟩ => by
  cases ds with
  | nil =>
    cases e
    exact ⟨r, q σ F H rfl k (Step.refl _)⟩
  | cons d ds => cases e
theorem gws_cons {e : Expr} {es : List Expr} {g : GF} {gs : GFs} (h1 : GW B X vs e g) (h2 : GWs B X vs es gs) (hs : (assignEach (e :: es) X.env).map (·.2) = assign e X.env :: (assignEach es X.env).map (·.2) := by rfl) : GWs B X vs (e :: es) (consG g gs) :=
  PGs.imp (pgs_cons h1 h2 hs) fun ws σ H Q ⟨F, Γ, ds, Γ', k, r, e, q⟩ => by
    cases ds with
    | nil => cases e
    | cons d ds =>
      obtain ⟨Γ1, e1, e2⟩ := Option.bind_eq_some_iff.mp e
      obtain ⟨v, vr, rfl, r1, r2⟩ := r
      exact ⟨v, vr, rfl, F, Γ, d, Γ1, k, r1, e1, fun σ1 F1 H1 w1 k1 st1 => ⟨F1, Γ1, ds, Γ', k1, r2.same st1.same, e2, fun σ2 F2 H2 w2 k2 st2 => q σ2 F2 H2 (w2.trans w1) k2 (st1.trans st2)⟩⟩
theorem gw_tup {es : List Expr} {kk : Nat} {gs : GFs} {n : Nat} {pos : Pos} (hK : X.K = B.K) (h : GWs B X vs es gs) (hc : X.calm = true := by rfl) (hn : (assignEach es X.env).length = n := by rfl) (hst : (assignEach es X.env).findIdx? (·.1) = none := by rfl) : GW B X vs (.Tuple es kk pos) (tupG n gs) :=
  PG.imp (pg_tup hc h hn hst) fun v σ H Q ⟨F, Γ, d, Γ', k, r, e, q⟩ => by
    cases d with
    | tuple ds =>
      unfold tupG at e
      simp only at e
      split at e
      · rename_i hl
        obtain ⟨a, ws, rfl, s1, r1⟩ := r
        exact ⟨a, ws, rfl, by rw [hK]; exact k.ext.seqT s1.sq, by rw [r1.length]; exact hl, F, Γ, ds, Γ', k, r1, e, q⟩
      · cases e
    | _ => cases e
/-! ### the tests behind for -/
def yesF : TF := fun Γ => .ok true Γ
abbrev ETs (B : Bx) (X : Cx) (ifs : List Expr) (t : TF) : Prop := PTs X ifs (toTT B t)
theorem ets_nil : ETs B X [] yesF := ⟨fun pins s σ H Q I ⟨F, Γ, b, Γ', k, e, q⟩ => by
  cases e
  exact pts_nil.run pins s σ H Q I (q F H k (Step.refl _))⟩
theorem ets_one {c : Expr} {t : TF} (h : ET B X c t) : ETs B X [c] t := pts_one h
end

/-! ### [elt for tg in iter if ..] -/
def lcL (vs : List Nat) (g : GF) (t : TF) (elt : EF) : List PyData → Env → Res (List PyData)
  | [], Γ => .ok [] Γ
  | d :: ds, Γ => match g d Γ with
    | none => .bad
    | some Γ1 => (t Γ1).bind fun b Γ2 => if b = true then (elt Γ2).bind fun r Γ3 => (lcL vs g t elt ds (wipeE Γ3 vs)).bind fun rest Γ4 => .ok (r.toD :: rest) Γ4
      else lcL vs g t elt ds (wipeE Γ2 vs)
def small24 (n : Nat) : Bool := decide (n ≤ 16777216)
def lcF (vs : List Nat) (it : IF) (g : GF) (t : TF) (elt : EF) : EF := fun Γ => (it Γ).bind fun items Γ1 => if small24 items.length = true then (lcL vs g t elt items (wipeE Γ1 vs)).bind fun ds Γ2 => .ok (.nw (.lst ds)) (backE Γ1 vs Γ2) else .bad
theorem small24_ok {n : Nat} (h : small24 n = true) : n ≤ sizeLine := of_decide_eq_true h
section
variable {B : Bx} {X : Cx}
theorem lc_gen {wi : TI} {items ds : List PyData} {F : Hp} {Γ Γ1 Γ2 : Env} {g : GF} {t : TF} {elt : EF} {vs : List Nat} {σ : L2.St} {H : Hp} {Q : VK} (hz : items.length ≤ sizeLine)
    (hwi : ∀ R : It → Hp → Prop, (∀ J F1 H1 inv, Ok B ⟨F1, H1, σ, Γ1⟩ → Step ⟨F, H, σ, Γ⟩ ⟨F1, H1, σ, Γ1⟩ → IterOk B J items inv → inv F1 H1 → R J H1) → wi σ H R) (e2 : lcL vs g t elt items (wipeE Γ1 vs) = .ok ds Γ2)
    (q : ∀ v F' H', Ok B ⟨F', H', σ, backE Γ1 vs Γ2⟩ → Step ⟨F, H, σ, Γ⟩ ⟨F', H', σ, backE Γ1 vs Γ2⟩ → RVok B ⟨F, H, σ, Γ⟩ ⟨F', H', σ, backE Γ1 vs Γ2⟩ v (.nw (.lst ds)) → Q v H') : tLc wi (toTGw B vs g) (toTT B t) (toTE B elt) vs σ H Q := by
    refine hwi _ fun J F1 H1 inv k1 st1 T hi D hD => ?_
    -- the block's start
    have kw := k1.wipe vs
    have stw := Step.wipe F1 H1 σ Γ1 vs
    have hiw : inv F1 H1 := hi
    obtain ⟨k2, st2, l2⟩ := Lone.new (o := .lst []) kw hD trivial
    let Inv' : Nat → Hp → Prop := fun i H' => i ≤ items.length ∧ ∃ F' Γ' acc ws rest, Ok B ⟨F', H', wipe σ vs, Γ'⟩ ∧ Step ⟨F1, H1, wipe σ vs, wipeE Γ1 vs⟩ ⟨F', H', wipe σ vs, Γ'⟩ ∧ Lone ⟨F', H', wipe σ vs, Γ'⟩ D (.lst ws) ∧ RepL B.K F' acc ws ∧ acc.length ≤ i ∧
      lcL vs g t elt (items.drop i) Γ' = .ok rest Γ2 ∧ acc ++ rest = ds
    refine ⟨fun i m H' => m = items.length - i ∧ Inv' i H', ⟨items.length, by simp, Nat.zero_le _, F1, wipeE Γ1 vs, [], [], ds, k2, st2, l2, rfl, Nat.le_refl _, e2, rfl⟩, ?_⟩
    rintro i m H3 ⟨rfl, hil, F3, Γ3, acc, ws, rest, k3, st3, l3, ra, hl, e3, et⟩
    have hi3 : inv F3 H3 := T.stable _ _ kw st3 k3 hiw
    by_cases hlt : i < items.length
    · have hdr : items.drop i = items[i] :: items.drop (i + 1) := List.drop_eq_getElem_cons hlt
      rw [hdr] at e3
      unfold lcL at e3
      refine .inr ⟨T.goes i F3 H3 hlt k3.ext hi3, Inv' (i + 1), fun H' hn => ⟨items.length - (i + 1), by omega, rfl, hn⟩, fun x H4 y => ?_⟩
      obtain ⟨F4, gr, rp⟩ := T.yields i F3 H3 x H4 items[i] (List.getElem?_eq_getElem hlt) k3.ext hi3 y
      obtain ⟨k4, st4⟩ := k3.grow gr
      cases eg : g items[i] Γ3 with
      | none =>
        rw [eg] at e3
        cases e3
      | some Γ5 =>
        rw [eg] at e3
        obtain ⟨b, Γ6, eb, e6⟩ := Res.of_bind e3
        refine ⟨F4, Γ3, items[i], Γ5, k4, rp, eg, fun σ5 F5 H5 hw5 k5 st5 => ⟨by rw [hw5, wipe_wipe], F5, Γ5, b, Γ6, k5, eb, fun F6 H6 k6 st6 => ?_⟩⟩
        have hw : wipe σ5 vs = wipe σ vs := by rw [hw5, wipe_wipe]
        have st36 := (st4.trans st5).trans st6
        cases b with
        | false =>
          simp only [Bool.false_eq_true, if_false] at e6 ⊢
          have k7 := k6.wipe vs
          have st7 := Step.wipe F6 H6 σ5 Γ6 vs
          have l7 := (l3.step (st36.trans st7) k7)
          rw [hw] at k7 st7 l7
          refine ⟨hlt, F6, wipeE Γ6 vs, acc, ws, rest, k7, (st3.trans st36).trans st7, l7, ra.same (st36.trans st7).same, by omega, e6, et⟩
        | true =>
          simp only [if_true] at e6 ⊢
          obtain ⟨r, Γ7, er, e7⟩ := Res.of_bind e6
          obtain ⟨rest', Γ8, e8, e9⟩ := Res.of_bind e7
          cases e9
          refine toTE_fro k6 er fun v F7 H7 k7 st7 rv => ?_
          have st37 := st36.trans st7
          have l7 := l3.step st37 k7
          refine ⟨ws, l7.at_, ?_, ?_⟩
          · rw [ra.length]
            omega
          · obtain ⟨k8, st8, l8⟩ := l7.put (o' := .lst (ws ++ [v])) trivial k7 (st3.trans st37) hD
            have k9 := k8.wipe vs
            have st9 := Step.wipe F7 (upd H7 D (.lst (ws ++ [v]))) σ5 Γ7 vs
            have l9 := l8.step st9 k9
            rw [hw] at k9 st9 l9
            refine ⟨hlt, F7, wipeE Γ7 vs, acc ++ [r.toD], ws ++ [v], rest', k9, st8.trans st9, l9, (ra.same st37.same).append (RepL.cons rv RepL.nil), by rw [List.length_append, List.length_singleton]; omega, e8, by rw [← et, List.append_assoc]; rfl⟩
    · have ei : i = items.length := by omega
      subst ei
      rw [List.drop_length] at e3
      cases e3
      obtain ⟨k4, st4, oc⟩ := k1.back st3 k3
      refine .inl ⟨T.stops F3 H3 k3.ext hi3, q (.ref D) F3 H3 k4 (st1.trans st4) ⟨D, rfl, l3.nF, ?_, st1.none_back hD, fun z => ?_⟩⟩
      · refine ⟨ws, l3.at_, ?_⟩
        rw [← et, List.append_nil]
        exact ra
      · rcases oc D z with y | y
        · exact l3.nO y
        · obtain ⟨j, tt, c, y1, y2⟩ := y
          obtain ⟨p, z1, _, z3, _⟩ := k1.own j tt c y1
          have z1' : σ[j]? = some (some (.ref p)) := z1
          have y2' : σ[j]? = some (some (.ref D)) := y2
          rw [z1'] at y2'
          cases y2'
          obtain ⟨o, ho, _⟩ := z3.there
          have ho' : H1 D = some o := ho
          rw [hD] at ho'
          cases ho'
theorem lc_te {it : IF} {g : GF} {t : TF} {elt : EF} {vs : List Nat} {σ : L2.St} {H : Hp} {Q : VK} (h : toTE B (lcF vs it g t elt) σ H Q) : tLc (toTI B it) (toTGw B vs g) (toTT B t) (toTE B elt) vs σ H Q := by
  obtain ⟨F, Γ, r, Γ', k, e, q⟩ := toTE_ok h
  obtain ⟨items, Γ1, e1, w1⟩ := Res.of_bind e
  split at w1
  · rename_i hz
    obtain ⟨ds, Γ2, e2, w2⟩ := Res.of_bind w1
    cases w2
    exact lc_gen (small24_ok hz) (fun R hR => ⟨F, Γ, items, Γ1, k, e1, hR⟩) e2 q
  · cases w1
theorem ee_lc {elt tg iter : Expr} {ifs : List Expr} {scope : Scope} {own : List (Str × Nat)} {pos : Pos} {it : IF} {g : GF} {t : TF} {ef : EF} (hc : X.calm = true) (hN : X.N.Nodup) (hi : II B X tg iter it) (ok : BlkOk X.N X.env.scope scope own)
    (hg : ∀ (s : Shared) (H : Hp) (C : Addr) (cl : List (Str × Addr)) (fp : List Addr), GW B (X.blk s H scope (compEnvC scope cl C X.env) fp) (own.map (·.2)) tg g) (ht : ∀ (s : Shared) (H : Hp) (C : Addr) (cl : List (Str × Addr)) (fp : List Addr), ETs B (X.blk s H scope (compEnvC scope cl C X.env) fp) ifs t)
    (he : ∀ (s : Shared) (H : Hp) (C : Addr) (cl : List (Str × Addr)) (fp : List Addr), EE B (X.blk s H scope (compEnvC scope cl C X.env) fp) elt ef) (hs : ∀ x, foldedSetIterable iter X.env x = pure x := by intro _; rfl) :
    EE B X (.ListComp elt [⟨tg, iter, ifs, 0⟩] scope pos) (lcF (own.map (·.2)) it g t ef) := PE.imp (pe_lc hc hN hi ok hg ht he hs) fun σ H Q h => lc_te h
end
end PD
end

section
set_option maxHeartbeats 4000000
/-! PD11: dict comprehensions, keys ints and texts or tuples of them. -/
namespace PD
open PySem PySem.Spec PyProof.Rows L2

/-- D[y] = z by a comprehension -/
theorem put_dict {Y : Cx} {ps : List (Addr × Obj)} {τ : L2.St} {G G' : Hp} {t : Shared} {E : Value → Shared → Prop} {D : Addr} {y z : V} {yv zv : Value} {Q : Unit → Shared → Prop} (hu : Y.A.units + 1 < cLine)
    (J : Inv Y ps τ G t) (g : DPut G D y z G') (ry : RelV y yv) (rz : RelV z zv) (done : ∀ t', Inv Y ps τ G' t' → Q () t') : wpAny (model Y.prog Y.w) Y.A (dictSet D yv zv) Q E t := by
  rcases g with ⟨kvs, k, eD, rfl, small, rfl⟩ | ⟨kvs, k, b, eD, rfl, eb, small, rfl⟩
  · exact d_dictSet J eD small ry rz done
  · have eyv : yv = Value.ref b := ry
    subst eyv
    obtain ⟨len, notSys, xs, paired, isDict⟩ := dt_of J.hok eD
    have lenX : xs.length ≤ sizeLine := by
      rw [← Paired.length paired]
      exact len
    have lenP : (putK kvs k z).length ≤ sizeLine := by
      have := length_putK kvs k z
      omega
    refine wpAny_dictSet_heap (hsz := lenX) (Nat.lt_of_succ_lt hu) (key_of J.hok eb) isDict fun h' isDict' sb => done _ ?_
    obtain ⟨ob, es, ep, hget, c1, c2, c3, _, c4⟩ := isDict'
    refine d_write J (by rw [eD]; trivial) sb ⟨ob, hget⟩ ⟨lenP, notSys, _, (paired.put k eb rz).keeps fun c ys hc => ?_, ob, es, ep, hget, c1, c2, c3, c4⟩
    have hcD : c ≠ D := ne_of hc eD fun z => nomatch z
    rw [upd_ne hcD]
    exact hc

/-- {key: val for tg in iter if ..}: D the new dict, o0 what it is at first -/
def tDcP (o0 : HO) (wi : TI) (g : TG) (tt : TT) (tk tv : TE) (vs : List Nat) : TE := fun σ H Q => wi σ H fun J H1 => ∀ D, H1 D = none → ∃ W : Nat → Nat → Hp → Prop, (∃ m, W 0 m (upd H1 D o0)) ∧ ∀ i m H, W i m H →
  (J.stop i H ∧ Q (.ref D) H) ∨ (J.go i H ∧ ∃ Nx : Hp → Prop, (∀ H', Nx H' → ∃ m', m' < m ∧ W (i + 1) m' H') ∧ ∀ x H', J.yld i H x H' → g x (wipe σ vs) H' fun σ2 H2 => wipe σ2 vs = wipe σ vs ∧ tt σ2 H2 fun b H3 =>
    if b = true then tk σ2 H3 fun y H4 => tv σ2 H4 fun z H5 => ∃ H6, DPut H5 D y z H6 ∧ Nx H6 else Nx H3)
section
variable {X : Cx}
theorem dcP_core {pins : List (Addr × Obj)} {s : Shared} {σ : L2.St} {H : Hp} {Q : VK} {kx vx tg iter : Expr} {ifs : List Expr} {scope : Scope} {own : List (Str × Nat)} {pos pos' : Pos} {o0 : HO} {wi : TI} {g : TG} {tt : TT} {tk tv : TE} {use : Option (Value → Sem Unit)} {Qf : Value → Shared → Prop}
    (ho0 : ∀ (G : Hp) (h : Heap), sysModules < h.objs.size → ObjOk X.prog X.w G (h.push { cls := .type "dict", data := .dict #[] }) h.objs.size o0)
    (hu : X.A.units + 1 < cLine) (hc : X.calm = true) (hN : X.N.Nodup) (I : Inv X pins σ H s) (hi : PI X tg iter wi) (ok : BlkOk X.N X.env.scope scope own)
    (hg : ∀ (s : Shared) (H : Hp) (C : Addr) (cl : List (Str × Addr)) (fp : List Addr), PG (X.blk s H scope (compEnvC scope cl C X.env) fp) tg g) (ht : ∀ (s : Shared) (H : Hp) (C : Addr) (cl : List (Str × Addr)) (fp : List Addr), PTs (X.blk s H scope (compEnvC scope cl C X.env) fp) ifs tt)
    (hk : ∀ (s : Shared) (H : Hp) (C : Addr) (cl : List (Str × Addr)) (fp : List Addr), PE (X.blk s H scope (compEnvC scope cl C X.env) fp) kx tk) (hv : ∀ (s : Shared) (H : Hp) (C : Addr) (cl : List (Str × Addr)) (fp : List Addr), PE (X.blk s H scope (compEnvC scope cl C X.env) fp) vx tv)
    (hs : ∀ x, foldedSetIterable iter X.env x = pure x) (h : tDcP o0 wi g tt tk tv (own.map (·.2)) σ H Q)
    (out : ∀ D C t m G, Inv X pins σ G t → Q (.ref D) G → t.heap.Ns C m → FpOk X pins G C → compPost (model X.prog X.w) X.A X.xe use Qf (.ref D) C (.ok .next) t) :
    wpAny (model X.prog X.w) X.A (comprehension (.DictComp kx vx [⟨tg, iter, ifs, 0⟩] scope pos) scope X.env pos' newDict false (eval iter X.env) use) Qf X.xe s := by
  have closes : ∀ y ∈ scope.names, y.2 = .free → ∃ c, X.env.cells.lookup y.1 = some c := fun y hy e => I.ok.has _ (ok.free y hy e)
  refine wpAny_comprehension_free (use := use) rfl hs (closure_ok closes) ok.kind (fun y hy e => by rw [ok.uniq y hy, e]) (thn (hi.run pins s σ H _ I h) fun _ _ got => thn got fun _ t2 got2 => ?_)
  obtain ⟨it, fp, tn, J, G2, rfl, I2, walk, at2, fpOk2, rest⟩ := got2
  refine wpAny_newObj_type (newEnv_comp ?_)
  -- D, the new dict
  obtain ⟨D, eD⟩ : ∃ D, D = t2.heap.objs.size := ⟨_, rfl⟩
  have freeD : G2 D = none := I2.hok.fresh (Nat.le_of_eq eD.symm)
  obtain ⟨W, ⟨m0, W0⟩, turn⟩ := rest D freeD
  rw [← eD]
  obtain ⟨t3, et3⟩ : ∃ t3 : Shared, t3 = { t2 with heap := t2.heap.push { cls := .type "dict", data := .dict #[] } } := ⟨_, rfl⟩
  have eh3 : t3.heap = t2.heap.push { cls := .type "dict", data := .dict #[] } := by rw [et3]
  obtain ⟨G3, eG3⟩ : ∃ G3, G3 = upd G2 D o0 := ⟨_, rfl⟩
  have I3 : Inv X pins σ G3 t3 := by
    rw [et3, eG3]
    refine I2.laid (t' := t2.toks) (fun b o e => Heap.get?_push_of_some _ e) (Nat.le_of_eq eD.symm) ?_
    rw [eD]
    exact ho0 _ t2.heap I2.big
  have fpLt : ∀ b ∈ fp, b < t2.heap.objs.size := fun b hb => by
    obtain ⟨_, e, _⟩ := walk.obj _ _ at2 b hb
    exact Heap.lt_size e
  have fpOk3 : ∀ b ∈ fp, FpOk X pins G3 b ∧ b < t3.heap.objs.size := fun b hb => by
    have lt := fpLt b hb
    obtain ⟨f0, f1⟩ := fpOk2 b hb
    refine ⟨⟨?_, f1⟩, by rw [eh3, Heap.size_push]; exact Nat.lt_succ_of_lt lt⟩
    rw [eG3, upd_ne (by rw [eD]; exact Nat.ne_of_lt lt)]
    exact f0
  have at3 : tn 0 t3.heap := walk.keep _ _ _ at2 fun b _ o e => by
    rw [eh3]
    exact Heap.get?_push_of_some _ e
  rw [← et3]
  -- the block's own frame
  obtain ⟨C, eC⟩ : ∃ C, C = t3.heap.objs.size := ⟨_, rfl⟩
  obtain ⟨cl, ecl⟩ : ∃ cl, cl = cellsFrom (t3.heap.objs.size + 1) scope.names (cloFrom X.env.cells scope.names []) := ⟨_, rfl⟩
  have I4 := block_start I3 ok hN fpOk3
  rw [← ecl, ← eC] at I4
  obtain ⟨t4, et4⟩ : ∃ t4 : Shared, t4 = { t3 with heap := pushCells (t3.heap.push { cls := .type "dict", data := .dict #[] }) scope.names } := ⟨_, rfl⟩
  rw [← et4] at I4
  have at4 : tn 0 t4.heap := walk.keep _ _ _ at3 fun b _ o e => by
    rw [et4]
    exact pushCells_keeps _ _ _ _ (Heap.get?_push_of_some _ e)
  have pG := hg t3 G3 C cl fp
  have pT := ht t3 G3 C cl fp
  have pK := hk t3 G3 C cl fp
  have pV := hv t3 G3 C cl fp
  obtain ⟨ce, ece⟩ : ∃ ce, ce = compEnvC scope cl C X.env := ⟨_, rfl⟩
  show codeAny _ _ (.compStart (.DictComp kx vx [⟨tg, iter, ifs, 0⟩] scope pos) 0 (.ref it) (.ref D) (compEnvC scope (cellsFrom (t3.heap.objs.size + 1) scope.names (cloFrom X.env.cells scope.names [])) t3.heap.objs.size X.env))
    (compPost (model X.prog X.w) X.A X.xe use Qf (.ref D) t3.heap.objs.size) { t3 with heap := pushCells (t3.heap.push { cls := .type "dict", data := .dict #[] }) scope.names }
  rw [← ecl, ← eC, ← et4, ← ece]
  rw [← ece] at I4 pG pT pK pV
  have ceL : ce.locals = C := by
    rw [ece]
    rfl
  have quiet : ∀ {τ : L2.St} {G : Hp} {t : Shared}, Inv (X.blk t3 G3 scope ce fp) [] τ G t → (∀ b ∈ fp, G b = none) → ∀ b ∈ fp, FpOk (X.blk t3 G3 scope ce fp) [] G b := fun {τ G t} J' n b hb =>
    ⟨n b hb, (J'.ok.exf b hb).1, J'.ok.exfs b hb, .inl hb, fun x c e => (J'.ok.exf b hb).2 x c e, fun p hp => by cases hp⟩
  have all : codeAny (model X.prog X.w) X.A (.compLoop (.DictComp kx vx [⟨tg, iter, ifs, 0⟩] scope pos) 0 (.ref it) (.ref D) ce) (compPost (model X.prog X.w) X.A X.xe use Qf (.ref D) C) t4 := by
    refine compLoop_anyD (fun m t => ∃ i G, Inv (X.blk t3 G3 scope ce fp) [] (wipe σ (own.map (·.2))) G t ∧ tn i t.heap ∧ (∀ b ∈ fp, G b = none) ∧ W i m G) ?_ m0 ⟨0, G3, I4, at4, fun b hb => (fpOk3 b hb).1.1, by rw [eG3]; exact W0⟩
    rintro m t5 ⟨i, G5, I5, at5, n5, w5⟩
    rcases turn i m G5 w5 with ⟨ends, fin⟩ | ⟨goes, Nx, onward, step⟩
    · refine thnF (walk.done (X.blk t3 G3 scope ce fp) rfl rfl rfl hc i [] t5 _ G5 (fun _ _ => False) I5 (quiet I5 n5) at5 ends) fun r t6 hr => ?_
      obtain ⟨rfl, I6⟩ := hr
      have I7 : Inv X pins σ G5 t6 := I3.call' (ch := fp) I6.os I6.base I6.hok I6.bare fun b hb =>
        let f := (fpOk3 b hb).1
        ⟨f.2.2.2.1, f.2.1, f.2.2.2.2.1, f.2.2.2.2.2⟩
      have freeC : G5 C = none := by
        have z : G5 ce.locals = none := I6.free
        rw [ceL] at z
        exact z
      obtain ⟨ns, hns, _⟩ := I6.loc
      have hns' : t6.heap.Ns C ns := by
        have z : t6.heap.Ns ce.locals ns := hns
        rw [ceL] at z
        exact z
      exact out D C t6 ns G5 I7 fin hns' (I3.fpOk (Nat.le_of_eq eC.symm) freeC)
    · refine thnF (walk.item (X.blk t3 G3 scope ce fp) rfl rfl rfl hc i [] t5 _ G5 (fun _ _ => False) I5 (quiet I5 n5) at5 goes) fun r t6 hr => ?_
      obtain ⟨u, rfl, gone⟩ := hr
      refine thnF gone fun _ t7 hr => ?_
      obtain ⟨x, G7, I7, rx, y7, at7, n7⟩ := hr
      refine thnF (pG.run _ t7 _ G7 x u _ (I7.pinned (quiet I7 n7) (walk.obj _ _ at7)) rx (step x G7 y7)) fun _ t8 hr => ?_
      obtain ⟨τ, G8, I8, same8, q8⟩ := hr
      refine thnF (pT.run _ t8 τ G8 _ I8 q8) fun b t9 hr => ?_
      obtain ⟨G9, I9, q9⟩ := hr
      have next : ∀ {t' : Shared} {G' : Hp}, Inv (X.blk t3 G3 scope ce fp) ([] ++ pinsAt fp t7.heap) τ G' t' → Nx G' → ∃ m', m' < m ∧ ∃ i G, Inv (X.blk t3 G3 scope ce fp) [] (wipe σ (own.map (·.2))) G t' ∧ tn i t'.heap ∧ (∀ b ∈ fp, G b = none) ∧ W i m' G := fun {t' G'} J' nx => by
        obtain ⟨m', lt, w'⟩ := onward G' nx
        have held : ∀ b ∈ fp, ∀ o, t7.heap.get? b = some o → t'.heap.get? b = some o ∧ G' b = none := fun b hb o e => by
          have z := J'.pin (b, o) (List.mem_append_right _ (List.mem_append_right _ (mem_pinsAt hb e)))
          exact ⟨z.1, z.2.1⟩
        refine ⟨m', lt, i + 1, G', (J'.unpinned (pins := [])).weak (by rw [← same8, wipe_length]) (fun j v e => ?_), walk.keep _ _ _ at7 fun b hb o e => (held b hb o e).1, fun b hb => ?_, w'⟩
        · rw [← same8] at e
          exact (wipe_some e).1
        · obtain ⟨o, e, _⟩ := walk.obj _ _ at7 b hb
          exact (held b hb o e).2
      cases b with
      | false =>
        rw [if_neg Bool.false_ne_true] at q9
        exact next I9 q9
      | true =>
        rw [if_pos rfl] at q9
        rw [if_pos rfl]
        refine thnF (pK.run _ t9 τ G9 _ I9 q9) fun kv t10 hr => ?_
        obtain ⟨y, G10, I10, ry, q10⟩ := hr
        refine thnF (pV.run _ t10 τ G10 _ I10 q10) fun vv t11 hr => ?_
        obtain ⟨z, G11, I11, rz, G12, put, nx⟩ := hr
        exact put_dict (Y := X.blk t3 G3 scope ce fp) hu I11 put ry rz fun t12 I12 => next I12 nx
  rw [eC] at all ⊢
  exact codeAny_compStart_dict all (walk.self X.A 0 _ _ _ at4 all)
theorem pe_dcP {kx vx tg iter : Expr} {ifs : List Expr} {scope : Scope} {own : List (Str × Nat)} {pos : Pos} {o0 : HO} {wi : TI} {g : TG} {tt : TT} {tk tv : TE}
    (ho0 : ∀ (G : Hp) (h : Heap), sysModules < h.objs.size → ObjOk X.prog X.w G (h.push { cls := .type "dict", data := .dict #[] }) h.objs.size o0)
    (hu : X.A.units + 1 < cLine) (hc : X.calm = true) (hN : X.N.Nodup) (hi : PI X tg iter wi) (ok : BlkOk X.N X.env.scope scope own)
    (hg : ∀ (s : Shared) (H : Hp) (C : Addr) (cl : List (Str × Addr)) (fp : List Addr), PG (X.blk s H scope (compEnvC scope cl C X.env) fp) tg g) (ht : ∀ (s : Shared) (H : Hp) (C : Addr) (cl : List (Str × Addr)) (fp : List Addr), PTs (X.blk s H scope (compEnvC scope cl C X.env) fp) ifs tt)
    (hk : ∀ (s : Shared) (H : Hp) (C : Addr) (cl : List (Str × Addr)) (fp : List Addr), PE (X.blk s H scope (compEnvC scope cl C X.env) fp) kx tk) (hv : ∀ (s : Shared) (H : Hp) (C : Addr) (cl : List (Str × Addr)) (fp : List Addr), PE (X.blk s H scope (compEnvC scope cl C X.env) fp) vx tv)
    (hs : ∀ x, foldedSetIterable iter X.env x = pure x := by intro _; rfl) : PE X (.DictComp kx vx [⟨tg, iter, ifs, 0⟩] scope pos) (tDcP o0 wi g tt tk tv (own.map (·.2))) := ⟨fun pins s σ H Q I h => by
  rw [arm_eval_DictComp]
  refine dcP_core ho0 hu hc hN I hi ok hg ht hk hv hs h fun D C t m G J q hn f => ⟨m, hn, fun h'' sb => ?_⟩
  obtain ⟨f0, f1, f2, f3, f4, f5⟩ := f
  exact ⟨.ref D, G, J.turned (t' := t.toks) (fun b o hb e => (sb.2 b hb).trans e) f0 f1 f3 f4 f5, rfl, q⟩⟩
/-- name = {..} on one line, the name a local -/
theorem ps_setDcP {i : Nat} {y : Str} {py : Pos} {kx vx tg iter : Expr} {ifs : List Expr} {scope : Scope} {own : List (Str × Nat)} {pos spos : Pos} {o0 : HO} {wi : TI} {g : TG} {tt : TT} {tk tv : TE}
    (ho0 : ∀ (G : Hp) (h : Heap), sysModules < h.objs.size → ObjOk X.prog X.w G (h.push { cls := .type "dict", data := .dict #[] }) h.objs.size o0)
    (hu : X.A.units + 1 < cLine) (hc : X.calm = true) (hN : X.N.Nodup) (hy : X.N[i]? = some y) (hyl : X.env.scope.names.lookup y = some .local)
    (hsw : swapsWith (.DictComp kx vx [⟨tg, iter, ifs, 0⟩] scope pos) (some (.Name y py)) spos.line X.env = pure true) (hi : PI X tg iter wi) (ok : BlkOk X.N X.env.scope scope own)
    (hg : ∀ (s : Shared) (H : Hp) (C : Addr) (cl : List (Str × Addr)) (fp : List Addr), PG (X.blk s H scope (compEnvC scope cl C X.env) fp) tg g) (ht : ∀ (s : Shared) (H : Hp) (C : Addr) (cl : List (Str × Addr)) (fp : List Addr), PTs (X.blk s H scope (compEnvC scope cl C X.env) fp) ifs tt)
    (hk : ∀ (s : Shared) (H : Hp) (C : Addr) (cl : List (Str × Addr)) (fp : List Addr), PE (X.blk s H scope (compEnvC scope cl C X.env) fp) kx tk) (hv : ∀ (s : Shared) (H : Hp) (C : Addr) (cl : List (Str × Addr)) (fp : List Addr), PE (X.blk s H scope (compEnvC scope cl C X.env) fp) vx tv)
    (hs : ∀ x, foldedSetIterable iter X.env x = pure x := by intro _; rfl) : PS X (.Assign [.Name y py] (.DictComp kx vx [⟨tg, iter, ifs, 0⟩] scope pos) spos) (tAsg (tDcP o0 wi g tt tk tv (own.map (·.2))) (gName i)) := ⟨fun pins s σ H D I h => by
  rw [exec_Assign_Name_used _ _ _ _ hsw]
  refine wpAny_bind (wpAny_standAt (wpAny_bind ?_))
  have h0 : tDcP o0 wi g tt tk tv (own.map (·.2)) σ H (fun x H1 => gName i x σ H1 D.nx) := h
  refine wpAny_bind (thn (dcP_core (use := some (assign (.Name y py) X.env)) (Qf := fun _ s' => SP X pins D .next s') ho0 hu hc hN I hi ok hg ht hk hv hs h0 fun L C t m G J q hn f => ?_) fun _ _ hq => wpAny_pure (wpAny_pure hq))
  refine wpAny_assign_Name (store_ok2 (v := V.ref L) J hN hy (.inl hyl) rfl (fun t2 J2 ⟨a, sb, ha⟩ => ?_) (.inr hyl))
  obtain ⟨f0, f1, f2, f3, f4, f5⟩ := f
  have other : C ≠ a := by
    rcases ha with z | z
    · rw [z]
      exact f1
    · exact fun e => f4 y a z e.symm
  exact ⟨m, hn.sameBut sb other, fun h3 sb3 => ⟨_, G, J2.turned (t' := t2.toks) (fun b o hb e => (sb3.2 b hb).trans e) f0 f1 f3 f4 f5, q⟩⟩⟩
end
end PD
end

section
set_option maxHeartbeats 4000000
/-! PD12: dict comprehensions by data; stores and methods on containers of one's own. -/
namespace PD
open PySem PySem.Spec PyProof.Rows L2

/-! ### a dict's store, by data -/
section
variable {K : PySem.W.Frag} {F : Hp}
theorem eqv_tupD (a b : List Key) : PyData.eqv (.tuple (a.map keyD)) (.tuple (b.map keyD)) = decide (a = b) := by
  rw [← eqv_keysD]
  unfold PyData.eqv
  rfl
theorem dput_length (kvs : List (PyData × PyData)) (k v : PyData) : (dput kvs k v).length ≤ kvs.length + 1 := by
  unfold dput
  split
  · rw [List.length_map]
    omega
  · rw [List.length_append]
    simp
theorem RepT.append : ∀ {kvs ls : List (PyData × PyData)} {ks ms : List (List Key × V)}, RepT K F kvs ks → RepT K F ls ms → RepT K F (kvs ++ ls) (ks ++ ms)
  | [], _, _, _, h, t => by
    have h' : _ = [] := h
    subst h'
    exact t
  | (k, d) :: r, ls, _, ms, h, t => by
    obtain ⟨kk, v, r', rfl, h1, h2, h3⟩ := h
    exact ⟨kk, v, r' ++ ms, rfl, h1, h2, RepT.append h3 t⟩
theorem RepA.append : ∀ {kvs ls : List (PyData × PyData)} {ks ms : List (Key × V)}, RepA K F kvs ks → RepA K F ls ms → RepA K F (kvs ++ ls) (ks ++ ms)
  | [], _, _, _, h, t => by
    have h' : _ = [] := h
    subst h'
    exact t
  | (k, d) :: r, ls, _, ms, h, t => by
    obtain ⟨kk, v, r', rfl, h1, h2, h3⟩ := h
    exact ⟨kk, v, r' ++ ms, rfl, h1, h2, RepA.append h3 t⟩
theorem RepT.anyK (k : List Key) : ∀ {kvs : List (PyData × PyData)} {ks : List (List Key × V)}, RepT K F kvs ks → kvs.any (fun p => PyData.eqv p.1 (.tuple (k.map keyD))) = ks.any (fun kv => decide (kv.1 = k))
  | [], _, h => by
    have h' : _ = [] := h
    subst h'
    rfl
  | (kd, d) :: r, _, h => by
    obtain ⟨kk, v, r', rfl, rfl, h2, h3⟩ := h
    rw [List.any_cons, List.any_cons, RepT.anyK k h3, eqv_tupD]
theorem RepA.anyK (k : Key) : ∀ {kvs : List (PyData × PyData)} {ks : List (Key × V)}, RepA K F kvs ks → kvs.any (fun p => PyData.eqv p.1 (keyD k)) = ks.any (fun kv => decide (kv.1 = k))
  | [], _, h => by
    have h' : _ = [] := h
    subst h'
    rfl
  | (kd, d) :: r, _, h => by
    obtain ⟨kk, v, r', rfl, rfl, h2, h3⟩ := h
    rw [List.any_cons, List.any_cons, RepA.anyK k h3, eqv_keyD]
theorem RepT.setK (k : List Key) {dv : PyData} {w : V} (rw_ : Rep K F dv w) : ∀ {kvs : List (PyData × PyData)} {ks : List (List Key × V)}, RepT K F kvs ks →
    RepT K F (kvs.map fun p => if PyData.eqv p.1 (.tuple (k.map keyD)) then (p.1, dv) else p) (ks.map fun kv => if kv.1 = k then (kv.1, w) else kv)
  | [], _, h => by
    have h' : _ = [] := h
    subst h'
    exact rfl
  | (kd, d) :: r, _, h => by
    obtain ⟨kk, v, r', rfl, rfl, h2, h3⟩ := h
    have t := RepT.setK k rw_ h3
    rw [List.map_cons, List.map_cons]
    by_cases e : kk = k
    · simp only [eqv_tupD, e, decide_true, if_true]
      exact ⟨k, w, _, rfl, rfl, rw_, t⟩
    · simp only [eqv_tupD, e, decide_false, if_false, Bool.false_eq_true]
      exact ⟨kk, v, _, rfl, rfl, h2, t⟩
theorem RepA.setK (k : Key) {dv : PyData} {w : V} (rw_ : Rep K F dv w) : ∀ {kvs : List (PyData × PyData)} {ks : List (Key × V)}, RepA K F kvs ks →
    RepA K F (kvs.map fun p => if PyData.eqv p.1 (keyD k) then (p.1, dv) else p) (ks.map fun kv => if kv.1 = k then (kv.1, w) else kv)
  | [], _, h => by
    have h' : _ = [] := h
    subst h'
    exact rfl
  | (kd, d) :: r, _, h => by
    obtain ⟨kk, v, r', rfl, rfl, h2, h3⟩ := h
    have t := RepA.setK k rw_ h3
    rw [List.map_cons, List.map_cons]
    by_cases e : kk = k
    · simp only [eqv_keyD, e, decide_true, if_true]
      exact ⟨k, w, _, rfl, rfl, rw_, t⟩
    · simp only [eqv_keyD, e, decide_false, if_false, Bool.false_eq_true]
      exact ⟨kk, v, _, rfl, rfl, h2, t⟩
theorem RepT.put {kvs : List (PyData × PyData)} {ks : List (List Key × V)} (k : List Key) {dv : PyData} {w : V} (h : RepT K F kvs ks) (r : Rep K F dv w) : RepT K F (dput kvs (.tuple (k.map keyD)) dv) (putK ks k w) := by
  unfold dput putK
  rw [h.anyK k]
  split
  · exact h.setK k r
  · exact h.append ⟨k, w, [], rfl, rfl, r, rfl⟩
theorem RepA.put {kvs : List (PyData × PyData)} {ks : List (Key × V)} (k : Key) {dv : PyData} {w : V} (h : RepA K F kvs ks) (r : Rep K F dv w) : RepA K F (dput kvs (keyD k) dv) (putK ks k w) := by
  unfold dput putK
  rw [h.anyK k]
  split
  · exact h.setK k r
  · exact h.append ⟨k, w, [], rfl, rfl, r, rfl⟩
end
/-- what a dict of one's own takes as a key -/
def okKey : Own → PyData → Bool
  | .dct _, .tuple ks => (keysOf ks).isSome
  | .dck _, d => (keyOf d).isSome
  | _, _ => false
/-- c[k] = v, by data -/
def putO (c : Own) (k v : PyData) : Option Own := match c with
  | .dct kvs => if okKey (.dct kvs) k && small24 (kvs.length + 1) then some (.dct (dput kvs k v)) else none
  | .dck kvs => if okKey (.dck kvs) k && small24 (kvs.length + 1) then some (.dck (dput kvs k v)) else none
  | .lst ds => match k with
    | .int i => (ixN ds.length i).map fun j => .lst (ds.set j v)
    | _ => none
theorem keyD_isKey (k : Key) : isKeyD (keyD k) = true := by cases k <;> rfl
theorem keysD_all (k : List Key) : (k.map keyD).all isKeyD = true := by
  rw [List.all_eq_true]
  intro x hx
  obtain ⟨y, _, rfl⟩ := List.mem_map.mp hx
  exact keyD_isKey y
/-- .. in the heap: a dict -/
theorem putO_dict {K : PySem.W.Frag} {F H : Hp} {D : Addr} {c c' : Own} {kd d : PyData} {y z : V} (e : Ext F H) (ho : OwnOk K F H D c) (hc : (∃ kvs, c = .dct kvs) ∨ ∃ kvs, c = .dck kvs) (h : putO c kd d = some c') (ry : Rep K F kd y) (rz : Rep K F d z) :
    ∃ o', DPut H D y z (upd H D o') ∧ Mut (some o') ∧ ∀ H', H' D = some o' → OwnOk K F H' D c' := by
  rcases hc with ⟨kvs, rfl⟩ | ⟨kvs, rfl⟩
  · replace h : (if okKey (.dct kvs) kd && small24 (kvs.length + 1) then some (Own.dct (dput kvs kd d)) else none) = some c' := h
    split at h
    · rename_i hk
      rw [Bool.and_eq_true] at hk
      cases h
      obtain ⟨ks, h1, h2⟩ := ho
      have hl := small24_ok hk.2
      cases kd with
      | tuple xs =>
        have hk1 : (keysOf xs).isSome = true := hk.1
        obtain ⟨k, ek⟩ := Option.isSome_iff_exists.mp hk1
        have ex := keysOf_some ek
        subst ex
        obtain ⟨b, vs, rfl, s1, r1⟩ := ry
        have ev := repL_keysD r1
        subst ev
        rcases s1 with s1 | ⟨_, s1⟩
        · exact ⟨_, .inr ⟨ks, k, b, h1, rfl, e.tup s1, by rw [h2.length]; omega, rfl⟩, trivial, fun H' hH => ⟨_, hH, h2.put k rz⟩⟩
        · rw [keysD_all] at s1
          cases s1
      | _ => exact absurd hk.1 (by unfold okKey; simp)
    · cases h
  · replace h : (if okKey (.dck kvs) kd && small24 (kvs.length + 1) then some (Own.dck (dput kvs kd d)) else none) = some c' := h
    split at h
    · rename_i hk
      rw [Bool.and_eq_true] at hk
      cases h
      obtain ⟨ks, h1, h2⟩ := ho
      have hl := small24_ok hk.2
      have hk1 : (keyOf kd).isSome = true := by
        have := hk.1
        unfold okKey at this
        exact this
      obtain ⟨k, ek⟩ := Option.isSome_iff_exists.mp hk1
      have ex := keyOf_some ek
      subst ex
      have ev := rep_keyD ry
      subst ev
      exact ⟨_, .inl ⟨ks, k, h1, rfl, by rw [h2.length]; omega, rfl⟩, trivial, fun H' hH => ⟨_, hH, h2.put k rz⟩⟩
    · cases h

/-! ### {key: val for tg in iter if ..} -/
def dcL (vs : List Nat) (g : GF) (t : TF) (kf vf : EF) : List PyData → Own → Env → Res Own
  | [], c, Γ => .ok c Γ
  | d :: ds, c, Γ => match g d Γ with
    | none => .bad
    | some Γ1 => (t Γ1).bind fun b Γ2 => if b = true then (kf Γ2).bind fun r Γ3 => (vf Γ3).bind fun r' Γ4 => (ofOpt (putO c r.toD r'.toD) Γ4).bind fun c' Γ4 => dcL vs g t kf vf ds c' (wipeE Γ4 vs)
      else dcL vs g t kf vf ds c (wipeE Γ2 vs)
/-- the new dict: of tuple keys or not -/
def dNew (tup : Bool) : Own := if tup = true then .dct [] else .dck []
def dcF (tup : Bool) (vs : List Nat) (it : IF) (g : GF) (t : TF) (kf vf : EF) : EF := fun Γ => (it Γ).bind fun items Γ1 => (dcL vs g t kf vf items (dNew tup) (wipeE Γ1 vs)).bind fun c Γ2 => .ok (.nw c) (backE Γ1 vs Γ2)
def o0 (tup : Bool) : HO := if tup = true then .dT [] else .dK []
def IsDct (c : Own) : Prop := (∃ kvs, c = .dct kvs) ∨ ∃ kvs, c = .dck kvs
theorem putO_isDct {c c' : Own} {k v : PyData} (h : putO c k v = some c') (hc : IsDct c) : IsDct c' := by
  rcases hc with ⟨kvs, rfl⟩ | ⟨kvs, rfl⟩
  · have h' : (if okKey (.dct kvs) k && small24 (kvs.length + 1) then some (Own.dct (dput kvs k v)) else none) = some c' := h
    split at h'
    · cases h'
      exact .inl ⟨_, rfl⟩
    · cases h'
  · have h' : (if okKey (.dck kvs) k && small24 (kvs.length + 1) then some (Own.dck (dput kvs k v)) else none) = some c' := h
    split at h'
    · cases h'
      exact .inr ⟨_, rfl⟩
    · cases h'
theorem o0_ok {P : Program} {w : World} (tup : Bool) (G : Hp) (h : Heap) (hb : sysModules < h.objs.size) : ObjOk P w G (h.push { cls := .type "dict", data := .dict #[] }) h.objs.size (o0 tup) := by
  cases tup with
  | true => exact dt_empty h hb
  | false => exact dk_empty h hb
theorem OwnOk.mut {K : PySem.W.Frag} {F H : Hp} {p : Addr} {c : Own} {o : HO} (h : OwnOk K F H p c) (e : H p = some o) : Mut (some o) := by
  obtain ⟨o', h1, h2⟩ := h.there
  rw [e] at h1
  cases h1
  exact h2
theorem OwnOk.at {K : PySem.W.Frag} {F F' H H' : Hp} {p : Addr} {c : Own} (h : OwnOk K F H p c) (s : Same F F') (e : H' p = H p) : OwnOk K F' H' p c := h.keep s fun o q => by rw [e]; exact q
section
variable {B : Bx} {X : Cx}
theorem dc_gen {tup : Bool} {wi : TI} {items : List PyData} {cc : Own} {F : Hp} {Γ Γ1 Γ2 : Env} {g : GF} {t : TF} {kf vf : EF} {vs : List Nat} {σ : L2.St} {H : Hp} {Q : VK}
    (hwi : ∀ R : It → Hp → Prop, (∀ J F1 H1 inv, Ok B ⟨F1, H1, σ, Γ1⟩ → Step ⟨F, H, σ, Γ⟩ ⟨F1, H1, σ, Γ1⟩ → IterOk B J items inv → inv F1 H1 → R J H1) → wi σ H R) (e2 : dcL vs g t kf vf items (dNew tup) (wipeE Γ1 vs) = .ok cc Γ2)
    (q : ∀ v F' H', Ok B ⟨F', H', σ, backE Γ1 vs Γ2⟩ → Step ⟨F, H, σ, Γ⟩ ⟨F', H', σ, backE Γ1 vs Γ2⟩ → RVok B ⟨F, H, σ, Γ⟩ ⟨F', H', σ, backE Γ1 vs Γ2⟩ v (.nw cc) → Q v H') : tDcP (o0 tup) wi (toTGw B vs g) (toTT B t) (toTE B kf) (toTE B vf) vs σ H Q := by
  refine hwi _ fun J F1 H1 inv k1 st1 T hi D hD => ?_
  have kw := k1.wipe vs
  have hiw : inv F1 H1 := hi
  have hm : Mut (some (o0 tup)) := by cases tup <;> trivial
  obtain ⟨k2, st2, l2⟩ := Lone.new (o := o0 tup) kw hD hm
  have oc0 : OwnOk B.K F1 (upd H1 D (o0 tup)) D (dNew tup) := by
    cases tup
    · exact ⟨[], upd_same, rfl⟩
    · exact ⟨[], upd_same, rfl⟩
  have d0 : IsDct (dNew tup) := by
    cases tup
    · exact .inr ⟨_, rfl⟩
    · exact .inl ⟨_, rfl⟩
  let Inv' : Nat → Hp → Prop := fun i H' => i ≤ items.length ∧ ∃ F' Γ' c o, Ok B ⟨F', H', wipe σ vs, Γ'⟩ ∧ Step ⟨F1, H1, wipe σ vs, wipeE Γ1 vs⟩ ⟨F', H', wipe σ vs, Γ'⟩ ∧ Lone ⟨F', H', wipe σ vs, Γ'⟩ D o ∧ OwnOk B.K F' H' D c ∧ IsDct c ∧
    dcL vs g t kf vf (items.drop i) c Γ' = .ok cc Γ2
  refine ⟨fun i m H' => m = items.length - i ∧ Inv' i H', ⟨items.length, by simp, Nat.zero_le _, F1, wipeE Γ1 vs, dNew tup, o0 tup, k2, st2, l2, oc0, d0, e2⟩, ?_⟩
  rintro i m H3 ⟨rfl, hil, F3, Γ3, c, o, k3, st3, l3, oc, dc, e3⟩
  have hi3 : inv F3 H3 := T.stable _ _ kw st3 k3 hiw
  by_cases hlt : i < items.length
  · have hdr : items.drop i = items[i] :: items.drop (i + 1) := List.drop_eq_getElem_cons hlt
    rw [hdr] at e3
    unfold dcL at e3
    refine .inr ⟨T.goes i F3 H3 hlt k3.ext hi3, Inv' (i + 1), fun H' hn => ⟨items.length - (i + 1), by omega, rfl, hn⟩, fun x H4 y => ?_⟩
    obtain ⟨F4, gr, rp⟩ := T.yields i F3 H3 x H4 items[i] (List.getElem?_eq_getElem hlt) k3.ext hi3 y
    obtain ⟨k4, st4⟩ := k3.grow gr
    cases eg : g items[i] Γ3 with
    | none =>
      rw [eg] at e3
      cases e3
    | some Γ5 =>
      rw [eg] at e3
      obtain ⟨b, Γ6, eb, e6⟩ := Res.of_bind e3
      refine ⟨F4, Γ3, items[i], Γ5, k4, rp, eg, fun σ5 F5 H5 hw5 k5 st5 => ⟨by rw [hw5, wipe_wipe], F5, Γ5, b, Γ6, k5, eb, fun F6 H6 k6 st6 => ?_⟩⟩
      have hw : wipe σ5 vs = wipe σ vs := by rw [hw5, wipe_wipe]
      have st36 := (st4.trans st5).trans st6
      cases b with
      | false =>
        simp only [Bool.false_eq_true, if_false] at e6 ⊢
        have k7 := k6.wipe vs
        have st7 := Step.wipe F6 H6 σ5 Γ6 vs
        have l7 := (l3.step (st36.trans st7) k7)
        have oc7 : OwnOk B.K F6 H6 D c := oc.at (st36.trans st7).same (l7.at_.trans l3.at_.symm)
        rw [hw] at k7 st7 l7
        exact ⟨hlt, F6, wipeE Γ6 vs, c, o, k7, (st3.trans st36).trans st7, l7, oc7, dc, e6⟩
      | true =>
        simp only [if_true] at e6 ⊢
        obtain ⟨r, Γ7, er, e7⟩ := Res.of_bind e6
        obtain ⟨r', Γ8, er', e8⟩ := Res.of_bind e7
        obtain ⟨c', Γ9, e9, e10⟩ := Res.of_bind e8
        obtain ⟨e9', rfl⟩ := of_ofOpt e9
        refine toTE_fro k6 er fun kv F7 H7 k7 st7 rk => ?_
        refine toTE_fro k7 er' fun vv F8 H8 k8 st8 rv => ?_
        have st38 := (st36.trans st7).trans st8
        have l8 := l3.step st38 k8
        have oc8 : OwnOk B.K F8 H8 D c := oc.at st38.same (l8.at_.trans l3.at_.symm)
        obtain ⟨o', dp, m', oc'⟩ := putO_dict k8.ext oc8 dc e9' (rk.same st8.same) rv
        refine ⟨_, dp, ?_⟩
        obtain ⟨k10, st10, l10⟩ := l8.put (o' := o') m' k8 (st3.trans st38) hD
        have k11 := k10.wipe vs
        have st11 := Step.wipe F8 (upd H8 D o') σ5 Γ9 vs
        have l11 := l10.step st11 k11
        rw [hw] at k11 st11 l11
        exact ⟨hlt, F8, wipeE Γ9 vs, c', o', k11, st10.trans st11, l11, oc' _ upd_same, putO_isDct e9' dc, e10⟩
  · have ei : i = items.length := by omega
    subst ei
    rw [List.drop_length] at e3
    cases e3
    obtain ⟨k4, st4, own⟩ := k1.back st3 k3
    refine .inl ⟨T.stops F3 H3 k3.ext hi3, q (.ref D) F3 H3 k4 (st1.trans st4) ⟨D, rfl, l3.nF, oc, st1.none_back hD, fun z => ?_⟩⟩
    rcases own D z with y | y
    · exact l3.nO y
    · obtain ⟨j, tt, c0, y1, y2⟩ := y
      obtain ⟨p, z1, _, z3, _⟩ := k1.own j tt c0 y1
      have z1' : σ[j]? = some (some (.ref p)) := z1
      have y2' : σ[j]? = some (some (.ref D)) := y2
      rw [z1'] at y2'
      cases y2'
      obtain ⟨o1, ho, _⟩ := z3.there
      have ho' : H1 D = some o1 := ho
      rw [hD] at ho'
      cases ho'
theorem dc_te {tup : Bool} {it : IF} {g : GF} {t : TF} {kf vf : EF} {vs : List Nat} {σ : L2.St} {H : Hp} {Q : VK} (h : toTE B (dcF tup vs it g t kf vf) σ H Q) : tDcP (o0 tup) (toTI B it) (toTGw B vs g) (toTT B t) (toTE B kf) (toTE B vf) vs σ H Q := by
  obtain ⟨F, Γ, r, Γ', k, e, q⟩ := toTE_ok h
  obtain ⟨items, Γ1, e1, w1⟩ := Res.of_bind e
  obtain ⟨cc, Γ2, e2, w2⟩ := Res.of_bind w1
  cases w2
  exact dc_gen (fun R hR => ⟨F, Γ, items, Γ1, k, e1, hR⟩) e2 q
theorem ee_dc (tup : Bool) {kx vx tg iter : Expr} {ifs : List Expr} {scope : Scope} {own : List (Str × Nat)} {pos : Pos} {it : IF} {g : GF} {t : TF} {kf vf : EF} (hu : X.A.units + 1 < cLine) (hc : X.calm = true) (hN : X.N.Nodup) (hi : II B X tg iter it) (ok : BlkOk X.N X.env.scope scope own)
    (hg : ∀ (s : Shared) (H : Hp) (C : Addr) (cl : List (Str × Addr)) (fp : List Addr), GW B (X.blk s H scope (compEnvC scope cl C X.env) fp) (own.map (·.2)) tg g) (ht : ∀ (s : Shared) (H : Hp) (C : Addr) (cl : List (Str × Addr)) (fp : List Addr), ETs B (X.blk s H scope (compEnvC scope cl C X.env) fp) ifs t)
    (hk : ∀ (s : Shared) (H : Hp) (C : Addr) (cl : List (Str × Addr)) (fp : List Addr), EE B (X.blk s H scope (compEnvC scope cl C X.env) fp) kx kf) (hv : ∀ (s : Shared) (H : Hp) (C : Addr) (cl : List (Str × Addr)) (fp : List Addr), EE B (X.blk s H scope (compEnvC scope cl C X.env) fp) vx vf)
    (hs : ∀ x, foldedSetIterable iter X.env x = pure x := by intro _; rfl) : EE B X (.DictComp kx vx [⟨tg, iter, ifs, 0⟩] scope pos) (dcF tup (own.map (·.2)) it g t kf vf) :=
  PE.imp (pe_dcP (o0_ok tup) hu hc hN hi ok hg ht hk hv hs) fun σ H Q h => dc_te h
theorem s_setDc (tup : Bool) (i : Nat) {y : Str} {py : Pos} {kx vx tg iter : Expr} {ifs : List Expr} {scope : Scope} {own : List (Str × Nat)} {pos spos : Pos} {it : IF} {g : GF} {t : TF} {kf vf : EF} (hu : X.A.units + 1 < cLine) (hc : X.calm = true) (hN : X.N.Nodup)
    (hsw : swapsWith (.DictComp kx vx [⟨tg, iter, ifs, 0⟩] scope pos) (some (.Name y py)) spos.line X.env = pure true) (hi : II B X tg iter it) (ok : BlkOk X.N X.env.scope scope own)
    (hg : ∀ (s : Shared) (H : Hp) (C : Addr) (cl : List (Str × Addr)) (fp : List Addr), GW B (X.blk s H scope (compEnvC scope cl C X.env) fp) (own.map (·.2)) tg g) (ht : ∀ (s : Shared) (H : Hp) (C : Addr) (cl : List (Str × Addr)) (fp : List Addr), ETs B (X.blk s H scope (compEnvC scope cl C X.env) fp) ifs t)
    (hk : ∀ (s : Shared) (H : Hp) (C : Addr) (cl : List (Str × Addr)) (fp : List Addr), EE B (X.blk s H scope (compEnvC scope cl C X.env) fp) kx kf) (hv : ∀ (s : Shared) (H : Hp) (C : Addr) (cl : List (Str × Addr)) (fp : List Addr), EE B (X.blk s H scope (compEnvC scope cl C X.env) fp) vx vf)
    (hs : ∀ x, foldedSetIterable iter X.env x = pure x := by intro _; rfl) (hy : X.N[i]? = some y := by rfl) (hyl : X.env.scope.names.lookup y = some .local := by rfl) :
    SS B X (.Assign [.Name y py] (.DictComp kx vx [⟨tg, iter, ifs, 0⟩] scope pos) spos) (setF i (dcF tup (own.map (·.2)) it g t kf vf)) := PS.imp (ps_setDcP (o0_ok tup) hu hc hN hy hyl hsw hi ok hg ht hk hv hs) fun D σ H ⟨F, Γ, k, h⟩ => by
  obtain ⟨r, Γ', e1, h⟩ := sof_cases h
  refine dc_te (toTE_mk k e1 fun v F' H' k' st rv => ?_)
  obtain ⟨k2, st2⟩ := set_rv (i := i) k' k.dom st rv
  exact h _ F' H' k2 st2
theorem s_setLc (i : Nat) {y : Str} {py : Pos} {elt tg iter : Expr} {ifs : List Expr} {scope : Scope} {own : List (Str × Nat)} {pos spos : Pos} {it : IF} {g : GF} {t : TF} {ef : EF} (hc : X.calm = true) (hN : X.N.Nodup)
    (hsw : swapsWith (.ListComp elt [⟨tg, iter, ifs, 0⟩] scope pos) (some (.Name y py)) spos.line X.env = pure true) (hi : II B X tg iter it) (ok : BlkOk X.N X.env.scope scope own)
    (hg : ∀ (s : Shared) (H : Hp) (C : Addr) (cl : List (Str × Addr)) (fp : List Addr), GW B (X.blk s H scope (compEnvC scope cl C X.env) fp) (own.map (·.2)) tg g) (ht : ∀ (s : Shared) (H : Hp) (C : Addr) (cl : List (Str × Addr)) (fp : List Addr), ETs B (X.blk s H scope (compEnvC scope cl C X.env) fp) ifs t)
    (he : ∀ (s : Shared) (H : Hp) (C : Addr) (cl : List (Str × Addr)) (fp : List Addr), EE B (X.blk s H scope (compEnvC scope cl C X.env) fp) elt ef)
    (hs : ∀ x, foldedSetIterable iter X.env x = pure x := by intro _; rfl) (hy : X.N[i]? = some y := by rfl) (hyl : X.env.scope.names.lookup y = some .local := by rfl) :
    SS B X (.Assign [.Name y py] (.ListComp elt [⟨tg, iter, ifs, 0⟩] scope pos) spos) (setF i (lcF (own.map (·.2)) it g t ef)) := PS.imp (ps_setLc hc hN hy hyl hsw hi ok hg ht he hs) fun D σ H ⟨F, Γ, k, h⟩ => by
  obtain ⟨r, Γ', e1, h⟩ := sof_cases h
  refine lc_te (toTE_mk k e1 fun v F' H' k' st rv => ?_)
  obtain ⟨k2, st2⟩ := set_rv (i := i) k' k.dom st rv
  exact h _ F' H' k2 st2
end

/-! ### a container of one's own is changed -/
section
variable {B : Bx} {X : Cx}
theorem own_put {F H : Hp} {σ : L2.St} {Γ : Env} {i : Nat} {t : Option Nat} {c c' : Own} {p : Addr} {o' : HO} (k : Ok B ⟨F, H, σ, Γ⟩) (e : Γ[i]? = some (some (.own t c))) (ep : σ[i]? = some (some (.ref p))) (hm : Mut (some o')) (ho : OwnOk B.K F (upd H p o') p c') :
    Ok B ⟨F, upd H p o', σ, Γ.set i (some (.own t c'))⟩ ∧ Step ⟨F, H, σ, Γ⟩ ⟨F, upd H p o', σ, Γ.set i (some (.own t c'))⟩ := by
  obtain ⟨p', h1, h2, h3, h4⟩ := k.own i t c e
  have h1' : σ[i]? = some (some (.ref p')) := h1
  rw [h1'] at ep
  have epp : p' = p := by
    injection ep with ep
    injection ep with ep
    injection ep
  subst epp
  have hF : F p' = none := h2
  have hi : i < Γ.length := (List.getElem?_eq_some_iff.mp e).1
  have cas : ∀ (j : Nat) sv, (Γ.set i (some (.own t c')))[j]? = some (some sv) → (j = i ∧ sv = .own t c') ∨ (j ≠ i ∧ Γ[j]? = some (some sv)) := fun j sv q => by
    by_cases hj : j = i
    · subst hj
      rw [List.getElem?_set_self hi] at q
      cases q
      exact .inl ⟨rfl, rfl⟩
    · rw [List.getElem?_set_ne (Ne.symm hj)] at q
      exact .inr ⟨hj, q⟩
  have isown : IsOwn Γ σ p' := ⟨i, t, c, e, h1'⟩
  have back : ∀ q, IsOwn (Γ.set i (some (.own t c'))) σ q → IsOwn Γ σ q := fun q hq => by
    obtain ⟨j, t', c2, e1, e2⟩ := hq
    rcases cas j _ e1 with ⟨rfl, _⟩ | ⟨_, e1⟩
    · exact ⟨j, t, c, e, e2⟩
    · exact ⟨j, t', c2, e1, e2⟩
  refine ⟨⟨fun b x q => ?_, by show σ.length = _; rw [List.length_set]; exact k.len, fun j d q => ?_, fun j t' c2 q => ?_, fun j1 j2 t1 t2 c1 c2 q e1 e2 => ?_, fun q x h => ?_⟩, ⟨Same.refl _, fun q x h n => ?_, fun q x h => ?_, fun q h => .inl (back q h), fun q x h => .inl h⟩⟩
  · have hb : b ≠ p' := ne_of_none q hF
    show upd H p' o' b = some x ∨ (Mut (some x) ∧ ∃ ob, upd H p' o' b = some (.frz ob x))
    rw [upd_ne hb]
    exact k.ext b x q
  · rcases cas j _ q with ⟨_, z⟩ | ⟨_, z⟩
    · cases z
    · exact k.fro j d z
  · rcases cas j _ q with ⟨rfl, z⟩ | ⟨hj, z⟩
    · cases z
      exact ⟨p', h1, h2, ho, h4⟩
    · obtain ⟨q', a1, a2, a3, a4⟩ := k.own j t' c2 z
      have hq : q' ≠ p' := fun zz => hj (k.dis j i t' t c2 c p' z e (by rw [← zz]; exact a1) h1)
      exact ⟨q', a1, a2, a3.at (Same.refl _) (upd_ne hq), a4⟩
  · rcases cas j1 _ e1 with ⟨a1, _⟩ | ⟨_, z1⟩ <;> rcases cas j2 _ e2 with ⟨a2, _⟩ | ⟨_, z2⟩
    · intros
      rw [a1, a2]
    · subst a1
      exact k.dis _ _ _ _ _ _ q e z2
    · subst a2
      exact k.dis _ _ _ _ _ _ q z1 e
    · exact k.dis _ _ _ _ _ _ q z1 z2
  · by_cases hq : q = p'
    · subst hq
      exact ⟨_, upd_same⟩
    · show ∃ y, upd H p' o' q = some y
      rw [upd_ne hq]
      exact k.dom q x h
  · have hq : q ≠ p' := fun z => n (by rw [z]; exact isown)
    show upd H p' o' q = some x
    rw [upd_ne hq]
    exact h
  · by_cases hq : q = p'
    · subst hq
      exact ⟨_, upd_same⟩
    · show ∃ y, upd H p' o' q = some y
      rw [upd_ne hq]
      exact ⟨x, h⟩
/-- a method by data: the container behind it, what it gives -/
abbrev OM := Own → List PyData → Option (Own × PyData)
def rO (K : PySem.W.Frag) (om : OM) : V → List V → Hp → VK → Prop := fun x vs H Q => ∃ F p c ds c' r, Ext F H ∧ x = .ref p ∧ F p = none ∧ OwnOk K F H p c ∧ RepL K F ds vs ∧ om c ds = some (c', r) ∧
  ∀ v o', Mut (some o') → OwnOk K F (upd H p o') p c' → Rep K F r v → Q v (upd H p o')
def ownTy : Own → String
  | .lst _ => "list"
  | _ => "dict"
/-- x.m(..), x in slot i a container of one's own -/
def methF (i : Nat) (T : String) (om : OM) (as : List EF) : EF := fun Γ => match slotD i Γ with
  | some (.own _ c0) => if ownTy c0 = T then (evalFs as Γ).bind fun ds Γ1 => match slotD i Γ1 with
    | some (.own t c) => (ofOpt (om c ds) Γ1).bind fun cr Γ1 => .ok (.fro cr.2) (Γ1.set i (some (.own t cr.1)))
    | _ => .bad
    else .bad
  | _ => .bad
theorem own_ty {K : PySem.W.Frag} {F H : Hp} {p : Addr} {c : Own} (h : OwnOk K F H p c) : tyV K (ownTy c) (.ref p) H := by
  cases c with
  | lst ds =>
    obtain ⟨vs, h1, _⟩ := h
    exact .inl ⟨rfl, vs, SqL.of h1⟩
  | dct kvs =>
    obtain ⟨vs, h1, _⟩ := h
    exact .inr (.inr (.inl ⟨rfl, .inr ⟨vs, h1⟩⟩))
  | dck kvs =>
    obtain ⟨vs, h1, _⟩ := h
    exact .inr (.inr (.inl ⟨rfl, .inl ⟨vs, h1⟩⟩))
theorem meth_te {i : Nat} {T : String} {om : OM} {as : List EF} {σ : L2.St} {H : Hp} {Q : VK} (h : toTE B (methF i T om as) σ H Q) : tBM B.K T (rO B.K om) (tVar i) (toTAa B (as.map .e)) σ H Q := by
  obtain ⟨F, Γ, r, Γ', k, e, q⟩ := toTE_ok h
  unfold methF at e
  split at e
  · rename_i t0 c0 es
    split at e
    · rename_i hT
      obtain ⟨ds, Γ1, e1, e2⟩ := Res.of_bind e
      obtain ⟨p, h1, h2, h3, h4⟩ := k.own i t0 c0 (of_slotD es)
      refine ⟨.ref p, h1, ?_, ?_⟩
      · rw [← hT]
        exact own_ty h3
      · refine fs_run k e1 fun vs F1 H1 k1 st1 r1 => ?_
        split at e2
        · rename_i t c es2
          obtain ⟨cr, Γ2, e3, e4⟩ := Res.of_bind e2
          obtain ⟨e3', rfl⟩ := of_ofOpt e3
          cases e4
          have ei := of_slotD es2
          obtain ⟨p', a1, a2, a3, a4⟩ := k1.own i t c ei
          have h1' : σ[i]? = some (some (.ref p)) := h1
          have a1' : σ[i]? = some (some (.ref p')) := a1
          have epp : p' = p := by
            rw [h1'] at a1'
            injection a1' with a1'
            injection a1' with a1'
            injection a1' with a1'
            exact a1'.symm
          subst epp
          refine ⟨F1, p', c, ds, cr.1, cr.2, k1.ext, rfl, a2, a3, r1, e3', fun v o' m ho rv => ?_⟩
          obtain ⟨k2, st2⟩ := own_put k1 ei a1 m ho
          exact q v F1 _ k2 (st1.trans st2) rv
        · cases e2
    · cases e
  · cases e
theorem ee_meth (i : Nat) {T id : String} {om : OM} {x : Str} {px : Pos} {e : Expr} {es : List Expr} {as : List EF} {name : Str} {apos cpos : Pos} (hK : X.K = B.K) (pa : PlainAttrs T) (slot : Slot T name id) (hty : typeOf (.builtin id) = pure (.type "method_descriptor")) (hm : MtR X id (rO X.K om)) (ha : EFs B X (e :: es) as)
    (hN : X.N[i]? = some x := by rfl) (hv : Vis X.env.scope x := by first | exact Or.inl rfl | exact Or.inr (Or.inl rfl) | exact Or.inr (Or.inr rfl)) (hd : (x == ("__debug__" : Str)) = false := by decide) (hcd : (x == ("__classdict__" : Str)) = false := by decide)
    (hbase : attributeBase (.Name x px) name X.env (eval (.Name x px) X.env) = eval (.Name x px) X.env := by rfl)
    (hfew : ((backTo cpos (starEach (e :: es) X.env)).all (fun x => !x.1) && (backToKw cpos (keywordEach [] X.env)).all (fun x => x.1.isSome)
      && decide ((e :: es).length + ([] : List Keyword).length + (if ([] : List Keyword).isEmpty then 0 else 1) < 30)) = true := by rfl)
    (hline : (apos.endLine == cpos.line) = true := by rfl) (hs : starEach (e :: es) X.env = (false, eval e X.env) :: starEach es X.env := by rfl) (hplain : (backTo cpos (starEach es X.env)).any (·.1) = false := by rfl) :
    EE B X (.Call (.Attribute (.Name x px) name apos) (e :: es) [] cpos) (methF i T om as) := PE.imp (pe_bm pa slot hty hm (pe_var hN hv hd hcd) ha hbase hfew hline hs hplain) fun σ H Q h => by
  rw [hK]
  exact meth_te h
theorem ee_meth0 (i : Nat) {T id : String} {om : OM} {x : Str} {px : Pos} {name : Str} {apos cpos : Pos} (hK : X.K = B.K) (pa : PlainAttrs T) (slot : Slot T name id) (hty : typeOf (.builtin id) = pure (.type "method_descriptor")) (hm : MtR X id (rO X.K om))
    (hN : X.N[i]? = some x := by rfl) (hv : Vis X.env.scope x := by first | exact Or.inl rfl | exact Or.inr (Or.inl rfl) | exact Or.inr (Or.inr rfl)) (hd : (x == ("__debug__" : Str)) = false := by decide) (hcd : (x == ("__classdict__" : Str)) = false := by decide)
    (hbase : attributeBase (.Name x px) name X.env (eval (.Name x px) X.env) = eval (.Name x px) X.env := by rfl) (hline : (apos.endLine == cpos.line) = true := by rfl) :
    EE B X (.Call (.Attribute (.Name x px) name apos) [] [] cpos) (methF i T om []) := PE.imp (pe_bm0 pa slot hty hm (pe_var hN hv hd hcd) hbase hline) fun σ H Q h => by
  rw [hK]
  obtain ⟨v, h1, h2, h3⟩ := meth_te h
  exact ⟨v, h1, h2, h3⟩
end

/-! ### lists -/
def omAppend : OM := fun c ds => match c, ds with
  | .lst xs, [d] => if small24 (xs.length + 1) = true then some (.lst (xs ++ [d]), .none) else none
  | _, _ => none
def omExtend : OM := fun c ds => match c, ds with
  | .lst xs, [.list ys] => if small24 (xs.length + ys.length) = true then some (.lst (xs ++ ys), .none) else none
  | _, _ => none
def omPop : OM := fun c ds => match c, ds with
  | .lst xs, [] => (xs[xs.length - 1]?).map fun y => (.lst xs.dropLast, y)
  | _, _ => none
def omPopAt : OM := fun c ds => match c, ds with
  | .lst xs, [.int i] => if small62 i = true then (seqIndex? i xs.length).bind fun k => (xs[k]?).map fun y => (.lst (xs.eraseIdx k), y) else none
  | _, _ => none
theorem rep_non {K : PySem.W.Frag} {F : Hp} : Rep K F .none .non := by
  unfold Rep
  rfl
section
variable {X : Cx}
theorem mo_append : MtR X "list.append" (rO X.K omAppend) := by
  intro pins s σ H x xs v us Q I rx rs h
  obtain ⟨F, p, c, ds, c', r, e, rfl, hF, ho, rl, em, q⟩ := h
  unfold omAppend at em
  split at em
  · rename_i ys d
    split at em
    · rename_i hz
      have hz := small24_ok hz
      cases em
      obtain ⟨ws, h1, h2⟩ := ho
      obtain ⟨y, yr, rfl, r1, r2⟩ := rl
      have r2' : yr = [] := r2
      subst r2'
      exact mt_append pins s σ H _ _ v us Q I rx rs ⟨p, ws, y, rfl, rfl, h1, by rw [h2.length]; omega, q _ _ trivial ⟨_, upd_same, h2.append (RepL.cons r1 RepL.nil)⟩ rep_non⟩
    · cases em
  · cases em
theorem mo_extend : MtR X "list.extend" (rO X.K omExtend) := by
  intro pins s σ H x xs v us Q I rx rs h
  obtain ⟨F, p, c, ds, c', r, e, rfl, hF, ho, rl, em, q⟩ := h
  unfold omExtend at em
  split at em
  · rename_i ys zs
    split at em
    · rename_i hz
      have hz := small24_ok hz
      cases em
      obtain ⟨ws, h1, h2⟩ := ho
      obtain ⟨y, yr, rfl, r1, r2⟩ := rl
      have r2' : yr = [] := r2
      subst r2'
      obtain ⟨b, us', rfl, s1, r3⟩ := r1
      have s2 : ∃ (its : List Value) (n : Nat), Vals us' its ∧ s.heap.get? b = some { cls := .type "list", data := .seq its.toArray n } ∧ us'.length ≤ sizeLine := by
        rcases s1 with s1 | ⟨its, n, z1, z2, z3⟩
        rotate_left
        · exact ⟨its.toList, n, z3, by rw [Array.toArray_toList]; exact I.kIn _ _ z1, by rw [z3.length, Array.length_toList]; exact z2⟩
        rcases e.rd s1 with z | ⟨ob, z⟩
        · exact I.lst z
        · obtain ⟨_, z1, its, n, z2, z3⟩ := I.hok b _ z
          exact ⟨its, n, z2, z3, z1⟩
      obtain ⟨u, rfl, ru⟩ := rs.one
      cases ru
      cases rx
      obtain ⟨its2, n2, rv2, ob2, hl2⟩ := s2
      obtain ⟨its, n, rv1, ob1, hl1⟩ := I.lst h1
      have len1 := rv1.length
      have len2 := rv2.length
      have lenA := h2.length
      have lenB := r3.length
      have few : its.toArray.size + its2.toArray.size ≤ sizeLine := by
        rw [List.size_toArray, List.size_toArray]
        omega
      have notMany : ¬ (!its.toArray.isEmpty && Builtin.List.listTooLong (its.toArray.size + its2.toArray.size)) = true := by
        rw [notLongL few, Bool.and_false]
        exact Bool.false_ne_true
      refine call_meets PySem.F.slot_list_extend ⟨_, ob1, rfl⟩ PySem.F.entry_list_extend (PySem.F.args_list_extend_2 _ _)
        (AutoSeq1.list_extend_list_list_0 p its.toArray n b its2.toArray n2 notMany (by rw [List.size_toArray]; omega) (by omega)) ⟨ob1, ob2, ?_⟩
      exact ⟨.non, _, I.lset (its' := its ++ its2) h1 ob1 (by simp) (rv1.append rv2) (by rw [List.length_append]; omega), rfl, q _ _ trivial ⟨_, upd_same, h2.append r3⟩ rep_non⟩
    · cases em
  · cases em
theorem mo_pop : MtR X "list.pop" (rO X.K omPop) := by
  intro pins s σ H x xs v us Q I rx rs h
  obtain ⟨F, p, c, ds, c', r, e, rfl, hF, ho, rl, em, q⟩ := h
  unfold omPop at em
  split at em
  · rename_i ys
    obtain ⟨y, hy, em2⟩ := Option.map_eq_some_iff.mp em
    cases em2
    obtain ⟨ws, h1, h2⟩ := ho
    have r2' : xs = [] := rl
    subst r2'
    obtain ⟨w, hw, rw1⟩ := h2.get hy
    refine mt_pop pins s σ H _ _ v us Q I rx rs ⟨p, ws, w, rfl, rfl, h1, by rw [h2.length]; exact hw, q _ _ trivial ⟨_, upd_same, ?_⟩ rw1⟩
    rw [List.dropLast_eq_take, List.dropLast_eq_take, h2.length]
    exact h2.take _
  · cases em
theorem mo_popAt : MtR X "list.pop" (rO X.K omPopAt) := by
  intro pins s σ H x xs v us Q I rx rs h
  obtain ⟨F, p, c, ds, c', r, e, rfl, hF, ho, rl, em, q⟩ := h
  unfold omPopAt at em
  split at em
  · rename_i ys i
    split at em
    · rename_i hz
      obtain ⟨z1, z2⟩ := small62_ok hz
      obtain ⟨k, hk, em2⟩ := Option.bind_eq_some_iff.mp em
      obtain ⟨y, hy, em3⟩ := Option.map_eq_some_iff.mp em2
      cases em3
      obtain ⟨ws, h1, h2⟩ := ho
      obtain ⟨y1, yr, rfl, r1, r2⟩ := rl
      have r2' : yr = [] := r2
      subst r2'
      unfold Rep at r1
      subst r1
      obtain ⟨w, hw, rw1⟩ := h2.get hy
      exact mt_popAt pins s σ H _ _ v us Q I rx rs ⟨p, ws, i, k, w, rfl, rfl, h1, by omega, by omega, by rw [h2.length]; exact hk, hw, q _ _ trivial ⟨_, upd_same, h2.eraseIdx k⟩ rw1⟩
    · cases em
  · cases em
end
end PD
end

section
set_option maxHeartbeats 4000000
/-! PD13: a dict that is walked. -/
namespace PD
open PySem PySem.Spec PyProof.Rows L2

section
variable {B : Bx} {X : Cx} {F H F' H' : Hp} {σ σ' : L2.St} {Γ Γ' : Env} {d : Addr} {u : HO} {od : Obj}
theorem Ok.lock (k : Ok B ⟨F, H, σ, Γ⟩) (hF : F d = some u) (hd : H d = some u) (mu : Mut (some u)) (od : Obj) : Ok B ⟨F, upd H d (.frz od u), σ, Γ⟩ := by
  refine ⟨fun b x q => ?_, k.len, k.fro, fun i t c e => ?_, k.dis, fun p x h => ?_⟩
  · show upd H d (.frz od u) b = some x ∨ (Mut (some x) ∧ ∃ ob, upd H d (.frz od u) b = some (.frz ob x))
    by_cases hb : b = d
    · subst hb
      have q' : F b = some x := q
      rw [hF] at q'
      cases q'
      exact .inr ⟨mu, od, upd_same⟩
    · rw [upd_ne hb]
      exact k.ext b x q
  · obtain ⟨p, h1, h2, h3, h4⟩ := k.own i t c e
    have hp : p ≠ d := fun z => by
      have h2' : F p = none := h2
      rw [z, hF] at h2'
      cases h2'
    exact ⟨p, h1, h2, h3.at (Same.refl _) (upd_ne hp), h4⟩
  · by_cases hp : p = d
    · subst hp
      exact ⟨_, upd_same⟩
    · show ∃ y, upd H d (.frz od u) p = some y
      rw [upd_ne hp]
      exact k.dom p x h
theorem unlock_ok (k : Ok B ⟨F, H, σ, Γ⟩) (hF : F d = some u) (hd : H d = some u) (mu : Mut (some u)) (k' : Ok B ⟨F', H', σ', Γ'⟩) (st : Step ⟨F, upd H d (.frz od u), σ, Γ⟩ ⟨F', H', σ', Γ'⟩) :
    H' d = some (.frz od u) ∧ Ok B ⟨F', upd H' d u, σ', Γ'⟩ ∧ Step ⟨F, H, σ, Γ⟩ ⟨F', upd H' d u, σ', Γ'⟩ := by
  have no : ∀ {Γ : Env} {σ : L2.St} {F H : Hp}, Ok B ⟨F, H, σ, Γ⟩ → F d = some u → ¬ IsOwn Γ σ d := fun {Γ σ F H} k hF ⟨i, t, c, e1, e2⟩ => by
    obtain ⟨p, h1, h2, _⟩ := k.own i t c e1
    have h1' : σ[i]? = some (some (.ref p)) := h1
    rw [h1'] at e2
    have ep : p = d := by
      injection e2 with e2
      injection e2 with e2
      injection e2
    subst ep
    have h2' : F p = none := h2
    rw [hF] at h2'
    cases h2'
  have hF' : F' d = some u := st.same _ _ hF
  have hd' : H' d = some (.frz od u) := st.fr d _ upd_same (no k hF)
  refine ⟨hd', ⟨fun b x q => ?_, k'.len, k'.fro, fun i t c e => ?_, k'.dis, fun p x h => ?_⟩, ⟨st.same, fun p x h n => ?_, fun p x h => ?_, fun p h => ?_, fun p x h => ?_⟩⟩
  · show upd H' d u b = some x ∨ (Mut (some x) ∧ ∃ ob, upd H' d u b = some (.frz ob x))
    by_cases hb : b = d
    · subst hb
      have q' : F' b = some x := q
      rw [hF'] at q'
      cases q'
      exact .inl upd_same
    · rw [upd_ne hb]
      exact k'.ext b x q
  · obtain ⟨p, h1, h2, h3, h4⟩ := k'.own i t c e
    have hp : p ≠ d := fun z => by
      have h2' : F' p = none := h2
      rw [z, hF'] at h2'
      cases h2'
    exact ⟨p, h1, h2, h3.at (Same.refl _) (upd_ne hp), h4⟩
  · by_cases hp : p = d
    · subst hp
      exact ⟨_, upd_same⟩
    · show ∃ y, upd H' d u p = some y
      rw [upd_ne hp]
      exact k'.dom p x h
  · by_cases hp : p = d
    · subst hp
      have h' : H p = some x := h
      rw [hd] at h'
      cases h'
      exact upd_same
    · show upd H' d u p = some x
      rw [upd_ne hp]
      exact st.fr p x (by show upd H d (.frz od u) p = _; rw [upd_ne hp]; exact h) n
  · by_cases hp : p = d
    · subst hp
      exact ⟨_, upd_same⟩
    · show ∃ y, upd H' d u p = some y
      rw [upd_ne hp]
      exact st.th p x (by show upd H d (.frz od u) p = _; rw [upd_ne hp]; exact h)
  · rcases st.ow p h with z | z
    · exact .inl z
    · right
      have z' : upd H d (.frz od u) p = none := z
      by_cases hp : p = d
      · subst hp
        rw [upd_same] at z'
        cases z'
      · rw [upd_ne hp] at z'
        exact z'
  · rcases st.fh p x h with z | z | z | z
    · exact .inl z
    · exact .inr (.inl z)
    · have z' : upd H d (.frz od u) p = none := z
      by_cases hp : p = d
      · subst hp
        rw [upd_same] at z'
        cases z'
      · rw [upd_ne hp] at z'
        exact .inr (.inr (.inl z'))
    · exact .inr (.inr (.inr z))
theorem RVok.unlock {v : V} {r : RV} (hF : F d = some u) (st : Step ⟨F, upd H d (.frz od u), σ, Γ⟩ ⟨F', H', σ', Γ'⟩) (h : RVok B ⟨F, upd H d (.frz od u), σ, Γ⟩ ⟨F', H', σ', Γ'⟩ v r) : RVok B ⟨F, H, σ, Γ⟩ ⟨F', upd H' d u, σ', Γ'⟩ v r := by
  cases r with
  | fro x => exact h
  | nw c =>
    obtain ⟨p, rfl, h2, h3, h4, h5⟩ := h
    have hp : p ≠ d := fun z => by
      have h2' : F' p = none := h2
      have z2 : F' d = some u := st.same _ _ hF
      rw [z, z2] at h2'
      cases h2'
    refine ⟨p, rfl, h2, h3.at (Same.refl _) (upd_ne hp), ?_, h5⟩
    have h4' : upd H d (.frz od u) p = none := h4
    rw [upd_ne hp] at h4'
    exact h4'
theorem RVr.unlock {v : V} {r : RV} (hF : F' d = some u) (h : RVr B ⟨F', H', σ', Γ'⟩ v r) : RVr B ⟨F', upd H' d u, σ', Γ'⟩ v r := by
  cases r with
  | fro x => exact h
  | nw c =>
    obtain ⟨p, rfl, h2, h3, h4, h5⟩ := h
    have hp : p ≠ d := fun z => by
      have h2' : F' p = none := h2
      rw [z, hF] at h2'
      cases h2'
    exact ⟨p, rfl, h2, h3.at (Same.refl _) (upd_ne hp), h4, h5⟩
end

/-! ### the walk over a locked dict's keys -/
section
variable {B : Bx} {X : Cx}
theorem RepT.nth {K : PySem.W.Frag} {F : Hp} : ∀ {kvs : List (PyData × PyData)} {ks : List (List Key × V)} {i : Nat} {k : List Key} {v : V}, RepT K F kvs ks → ks[i]? = some (k, v) → ∃ d, kvs[i]? = some (.tuple (k.map keyD), d) ∧ Rep K F d v
  | [], _, i, k, v, h, e => by
    have h' : _ = [] := h
    subst h'
    simp at e
  | (kd, d) :: r, _, i, k, v, h, e => by
    obtain ⟨kk, w, r', rfl, rfl, h3, h4⟩ := h
    cases i with
    | zero =>
      cases e
      exact ⟨d, rfl, h3⟩
    | succ i => exact RepT.nth (i := i) h4 (by simpa using e)
theorem RepA.nth {K : PySem.W.Frag} {F : Hp} : ∀ {kvs : List (PyData × PyData)} {ks : List (Key × V)} {i : Nat} {k : Key} {v : V}, RepA K F kvs ks → ks[i]? = some (k, v) → ∃ d, kvs[i]? = some (keyD k, d) ∧ Rep K F d v
  | [], _, i, k, v, h, e => by
    have h' : _ = [] := h
    subst h'
    simp at e
  | (kd, d) :: r, _, i, k, v, h, e => by
    obtain ⟨kk, w, r', rfl, rfl, h3, h4⟩ := h
    cases i with
    | zero =>
      cases e
      exact ⟨d, rfl, h3⟩
    | succ i => exact RepA.nth (i := i) h4 (by simpa using e)
theorem repL_kV {K : PySem.W.Frag} {F : Hp} : ∀ k : List Key, RepL K F (k.map keyD) (k.map kV)
  | [] => rfl
  | k :: ks => by
    refine RepL.cons ?_ (repL_kV ks)
    cases k with
    | inl i =>
      show Rep K F (.int i) (.int i)
      unfold Rep
      rfl
    | inr i =>
      show Rep K F (.str i) (.str i)
      unfold Rep
      rfl
theorem rep_kV {K : PySem.W.Frag} {F : Hp} (k : Key) : Rep K F (keyD k) (kV k) := by
  cases k with
  | inl i =>
    show Rep K F (.int i) (.int i)
    unfold Rep
    rfl
  | inr i =>
    show Rep K F (.str i) (.str i)
    unfold Rep
    rfl
theorem lock_stable {d : Addr} {o u : HO} (s s' : Sx) (k : Ok B s) (st : Step s s') (h : s.F d = some u ∧ s.H d = some o) : s'.F d = some u ∧ s'.H d = some o := by
  refine ⟨st.same _ _ h.1, st.fr d _ h.2 ?_⟩
  rintro ⟨i, t, c, e1, e2⟩
  obtain ⟨p, h1, h2, _⟩ := k.own i t c e1
  rw [h1] at e2
  have ep : p = d := by
    injection e2 with e2
    injection e2 with e2
    injection e2
  subst ep
  rw [h.1] at h2
  cases h2
theorem iter_dT {u : HO} {d : Addr} {od : Obj} {kvs : List (PyData × PyData)} {ks : List (List Key × V)} {K : PySem.W.Frag} {F0 : Hp} (r : RepT K F0 kvs ks) : IterOk B (Itkt d od ks) (kvs.map (·.1)) (fun F H => F d = some u ∧ H d = some (.frz od (.dT ks))) := by
  refine ⟨fun s s' k st _ h => lock_stable s s' k st h, fun i F H hi e h => ?_, fun F H e h => ?_, fun i F H x H' y hy e h z => ?_⟩
  · exact ⟨h.2, by rw [List.length_map] at hi; rw [r.length]; exact hi⟩
  · exact ⟨h.2, by rw [List.length_map, r.length]; exact Nat.le_refl _⟩
  · obtain ⟨rfl, k, v, q, e1, rfl, e3⟩ := z
    obtain ⟨dv, e4, _⟩ := r.nth e1
    rw [List.getElem?_map, e4] at hy
    cases hy
    exact ⟨plus F H', Grow.tups e, q, _, rfl, .inl (plus_tup e e3), repL_kV k⟩
theorem iter_dK {u : HO} {d : Addr} {od : Obj} {kvs : List (PyData × PyData)} {ks : List (Key × V)} {K : PySem.W.Frag} {F0 : Hp} (r : RepA K F0 kvs ks) : IterOk B (Itk d od ks) (kvs.map (·.1)) (fun F H => F d = some u ∧ H d = some (.frz od (.dK ks))) := by
  refine ⟨fun s s' k st _ h => lock_stable s s' k st h, fun i F H hi e h => ?_, fun F H e h => ?_, fun i F H x H' y hy e h z => ?_⟩
  · exact ⟨h.2, by rw [List.length_map] at hi; rw [r.length]; exact hi⟩
  · exact ⟨h.2, by rw [List.length_map, r.length]; exact Nat.le_refl _⟩
  · obtain ⟨rfl, k, v, e1, rfl⟩ := z
    obtain ⟨dv, e4, _⟩ := r.nth e1
    rw [List.getElem?_map, e4] at hy
    cases hy
    exact ⟨F, Grow.refl e, rep_kV k⟩
/-- the keys of the dict in slot i -/
def dictS (i : Nat) : IF := fun Γ => (varF i Γ).bind fun r Γ' => match r.toD with
  | .dict kvs => .ok (kvs.map (·.1)) Γ'
  | _ => .bad
/-- the walk over slot i may start -/
def CanGo (B : Bx) (F : Hp) (σ : L2.St) (i : Nat) (items : List PyData) (H : Hp) : Prop := ∃ J inv, IterOk B J items inv ∧ inv F H ∧ ∀ R : It → Hp → Prop, R J H → iKeys (tVar i) σ H R
/-- the slot's dict, frozen; locked or not -/
theorem dict_slot {F H : Hp} {σ : L2.St} {Γ Γ' : Env} {i : Nat} {items : List PyData} (k : Ok B ⟨F, H, σ, Γ⟩) (e : dictS i Γ = .ok items Γ') :
    ∃ F' d, Ok B ⟨F', H, σ, Γ'⟩ ∧ Step ⟨F, H, σ, Γ⟩ ⟨F', H, σ, Γ'⟩ ∧ ((∃ u, F' d = some u ∧ Mut (some u) ∧ H d = some u ∧ ∀ od, CanGo B F' σ i items (upd H d (.frz od u))) ∨ CanGo B F' σ i items H) := by
  obtain ⟨r, Γ1, e1, e2⟩ := Res.of_bind e
  obtain ⟨sv, Γ2, e3, e4⟩ := Res.of_bind e1
  obtain ⟨e3, rfl⟩ := of_ofOpt e3
  have ei := of_slotD e3
  -- frozen
  have fz : ∃ F' v, σ[i]? = some (some v) ∧ Ok B ⟨F', H, σ, Γ1⟩ ∧ Step ⟨F, H, σ, Γ2⟩ ⟨F', H, σ, Γ1⟩ ∧ Rep B.K F' r.toD v := by
    cases sv with
    | fro d =>
      cases e4
      obtain ⟨v, h1, h2⟩ := k.fro i d ei
      exact ⟨F, v, h1, k, Step.refl _, h2⟩
    | own t c =>
      cases e4
      obtain ⟨F', p, h1, h2, h3, h4⟩ := freeze_slot k ei
      exact ⟨F', _, h1, h2, h3, h4⟩
  obtain ⟨F', v, h1, k1, st1, rp⟩ := fz
  split at e2
  · rename_i kvs ed
    cases e2
    rw [ed] at rp
    obtain ⟨d, rfl, hd⟩ := rp
    rcases hd with ⟨ks, hr, r0⟩ | ⟨ks, hr, r0⟩
    · have can : ∀ (u : HO) (H1 : Hp) od, F' d = some u → H1 d = some (.frz od (.dT ks)) → CanGo B F' σ i (kvs.map (·.1)) H1 := fun u H1 od z hH => ⟨Itkt d od ks, _, iter_dT (u := u) r0, ⟨z, hH⟩, fun R hR => ⟨_, h1, d, od, rfl, .inr ⟨ks, hH, hR⟩⟩⟩
      refine ⟨F', d, k1, st1, ?_⟩
      rcases hr with z | ⟨o', z⟩
      · rcases k1.ext d _ z with y | ⟨_, ob, y⟩
        · exact .inl ⟨_, z, trivial, y, fun od => can _ _ od z upd_same⟩
        · exact .inr (can _ _ ob z y)
      · rcases k1.ext d _ z with y | ⟨m, ob, y⟩
        · exact .inr (can _ _ o' z y)
        · exact m.elim
    · have can : ∀ (u : HO) (H1 : Hp) od, F' d = some u → H1 d = some (.frz od (.dK ks)) → CanGo B F' σ i (kvs.map (·.1)) H1 := fun u H1 od z hH => ⟨Itk d od ks, _, iter_dK (u := u) r0, ⟨z, hH⟩, fun R hR => ⟨_, h1, d, od, rfl, .inl ⟨ks, hH, hR⟩⟩⟩
      refine ⟨F', d, k1, st1, ?_⟩
      rcases hr with z | ⟨o', z⟩
      · rcases k1.ext d _ z with y | ⟨_, ob, y⟩
        · exact .inl ⟨_, z, trivial, y, fun od => can _ _ od z upd_same⟩
        · exact .inr (can _ _ ob z y)
      · rcases k1.ext d _ z with y | ⟨m, ob, y⟩
        · exact .inr (can _ _ o' z y)
        · exact m.elim
  · cases e2
/-! ### for x in d -/
theorem SPost.unlock {F H : Hp} {σ : L2.St} {Γ : Env} {d : Addr} {u : HO} {od : Obj} (k : Ok B ⟨F, H, σ, Γ⟩) (hF : F d = some u) (hd : H d = some u) (mu : Mut (some u)) {D : Ends} : ∀ {o : SO}, SPost B ⟨F, H, σ, Γ⟩ D o →
    SPost B ⟨F, upd H d (.frz od u), σ, Γ⟩ ⟨fun σ' H' => H' d = some (.frz od u) ∧ D.nx σ' (upd H' d u), fun v H' => H' d = some (.frz od u) ∧ D.rt v (upd H' d u), fun σ' H' => H' d = some (.frz od u) ∧ D.bk σ' (upd H' d u), fun σ' H' => H' d = some (.frz od u) ∧ D.ct σ' (upd H' d u)⟩ o
  | .nx Γ', h => fun σ' F' H' k' st => by
    obtain ⟨a, b, c⟩ := unlock_ok k hF hd mu k' st
    exact ⟨a, h σ' F' _ b c⟩
  | .rt r Γ', h => fun v σ' F' H' k' st rv => by
    obtain ⟨a, b, c⟩ := unlock_ok k hF hd mu k' st
    exact ⟨a, h v σ' F' _ b c (rv.unlock (st.same _ _ hF))⟩
  | .bk Γ', h => fun σ' F' H' k' st => by
    obtain ⟨a, b, c⟩ := unlock_ok k hF hd mu k' st
    exact ⟨a, h σ' F' _ b c⟩
  | .ct Γ', h => fun σ' F' H' k' st => by
    obtain ⟨a, b, c⟩ := unlock_ok k hF hd mu k' st
    exact ⟨a, h σ' F' _ b c⟩
  | .bad, h => h
theorem s_forD (i : Nat) {tg : Expr} {x : Str} {px : Pos} {body : List Stmt} {g : GF} {b : SF} {pos : Pos} (hp : PassesOwn (model X.prog X.w) X.A X.env X.xe) (hg : GG B X tg g) (hb : SSs B X body b) (hN : X.N[i]? = some x := by rfl)
    (hv : Vis X.env.scope x := by first | exact Or.inl rfl | exact Or.inr (Or.inl rfl) | exact Or.inr (Or.inr rfl)) (hdb : (x == ("__debug__" : Str)) = false := by decide) (hcd : (x == ("__classdict__" : Str)) = false := by decide) (hc : X.calm = true := by rfl)
    (hs : ∀ v, foldedSetIterable (.Name x px) X.env v = pure v := by intro _; rfl) : SS B X (.For tg (.Name x px) body [] pos) (forF (dictS i) g b) := by
  have P := ps_for (pos := pos) hp hc (pi_keys (tg := tg) (pe_var (pos := px) hN hv hdb hcd)) hg hb hs
  refine PS.imp (PS.or P (ps_lock P)) fun D σ H ⟨F, Γ, k, h⟩ => ?_
  obtain ⟨items, Γ', e1, h⟩ := sof_cases h
  obtain ⟨F', d, k1, st1, q⟩ := dict_slot k e1
  have h1 := h.step st1
  rcases q with ⟨u, z1, z2, z3, z4⟩ | ⟨J, inv, T, hi, go⟩
  · refine .inr ⟨d, u, z3, z2, fun od => ?_⟩
    obtain ⟨J, inv, T, hi, go⟩ := z4 od
    exact go _ (for_core T (k1.lock z1 z3 z2 od) hi (h1.unlock k1 z1 z3 z2))
  · exact .inl (go _ (for_core T k1 hi h1))
/-! ### comprehensions over it -/
theorem ee_lcD (i : Nat) {elt tg : Expr} {x : Str} {px : Pos} {ifs : List Expr} {scope : Scope} {own : List (Str × Nat)} {pos : Pos} {g : GF} {t : TF} {ef : EF} (hc : X.calm = true) (hN : X.N.Nodup) (ok : BlkOk X.N X.env.scope scope own)
    (hg : ∀ (s : Shared) (H : Hp) (C : Addr) (cl : List (Str × Addr)) (fp : List Addr), GW B (X.blk s H scope (compEnvC scope cl C X.env) fp) (own.map (·.2)) tg g) (ht : ∀ (s : Shared) (H : Hp) (C : Addr) (cl : List (Str × Addr)) (fp : List Addr), ETs B (X.blk s H scope (compEnvC scope cl C X.env) fp) ifs t)
    (he : ∀ (s : Shared) (H : Hp) (C : Addr) (cl : List (Str × Addr)) (fp : List Addr), EE B (X.blk s H scope (compEnvC scope cl C X.env) fp) elt ef) (hx : X.N[i]? = some x := by rfl)
    (hv : Vis X.env.scope x := by first | exact Or.inl rfl | exact Or.inr (Or.inl rfl) | exact Or.inr (Or.inr rfl)) (hdb : (x == ("__debug__" : Str)) = false := by decide) (hcd : (x == ("__classdict__" : Str)) = false := by decide)
    (hs : ∀ v, foldedSetIterable (.Name x px) X.env v = pure v := by intro _; rfl) : EE B X (.ListComp elt [⟨tg, .Name x px, ifs, 0⟩] scope pos) (lcF (own.map (·.2)) (dictS i) g t ef) := by
  have P := pe_lc (pos := pos) hc hN (pi_keys (tg := tg) (pe_var (pos := px) hx hv hdb hcd)) ok hg ht he hs
  refine PE.imp (PE.or P (pe_lock P)) fun σ H Q h => ?_
  obtain ⟨F, Γ, r, Γ', k, e, q⟩ := toTE_ok h
  obtain ⟨items, Γ1, e1, w1⟩ := Res.of_bind e
  split at w1
  · rename_i hz
    obtain ⟨ds, Γ2, e2, w2⟩ := Res.of_bind w1
    cases w2
    obtain ⟨F', d, k1, st1, hq⟩ := dict_slot k e1
    rcases hq with ⟨u, z1, z2, z3, z4⟩ | ⟨J, inv, T, hi, go⟩
    · refine .inr ⟨d, u, z3, z2, fun od => ?_⟩
      obtain ⟨J, inv, T, hi, go⟩ := z4 od
      have kl := k1.lock z1 z3 z2 od
      refine lc_gen (F := F') (Γ := Γ1) (small24_ok hz) (fun R hR => go R (hR J F' _ inv kl (Step.refl _) T hi)) e2 fun v F2 H2 k2 st2 rv => ?_
      obtain ⟨a, b, c⟩ := unlock_ok k1 z1 z3 z2 k2 st2
      exact ⟨a, q v F2 _ b (st1.trans c) ((rv.unlock z1 st2).step st1)⟩
    · exact .inl (lc_gen (F := F') (Γ := Γ1) (small24_ok hz) (fun R hR => go R (hR J F' _ inv k1 (Step.refl _) T hi)) e2 fun v F2 H2 k2 st2 rv => q v F2 _ k2 (st1.trans st2) (rv.step st1))
  · cases w1
theorem s_setLcD (i j : Nat) {y : Str} {py : Pos} {elt tg : Expr} {x : Str} {px : Pos} {ifs : List Expr} {scope : Scope} {own : List (Str × Nat)} {pos spos : Pos} {g : GF} {t : TF} {ef : EF} (hc : X.calm = true) (hN : X.N.Nodup)
    (hsw : swapsWith (.ListComp elt [⟨tg, .Name x px, ifs, 0⟩] scope pos) (some (.Name y py)) spos.line X.env = pure true) (ok : BlkOk X.N X.env.scope scope own)
    (hg : ∀ (s : Shared) (H : Hp) (C : Addr) (cl : List (Str × Addr)) (fp : List Addr), GW B (X.blk s H scope (compEnvC scope cl C X.env) fp) (own.map (·.2)) tg g) (ht : ∀ (s : Shared) (H : Hp) (C : Addr) (cl : List (Str × Addr)) (fp : List Addr), ETs B (X.blk s H scope (compEnvC scope cl C X.env) fp) ifs t)
    (he : ∀ (s : Shared) (H : Hp) (C : Addr) (cl : List (Str × Addr)) (fp : List Addr), EE B (X.blk s H scope (compEnvC scope cl C X.env) fp) elt ef) (hx : X.N[i]? = some x := by rfl)
    (hv : Vis X.env.scope x := by first | exact Or.inl rfl | exact Or.inr (Or.inl rfl) | exact Or.inr (Or.inr rfl)) (hdb : (x == ("__debug__" : Str)) = false := by decide) (hcd : (x == ("__classdict__" : Str)) = false := by decide)
    (hs : ∀ v, foldedSetIterable (.Name x px) X.env v = pure v := by intro _; rfl) (hy : X.N[j]? = some y := by rfl) (hyl : X.env.scope.names.lookup y = some .local := by rfl) :
    SS B X (.Assign [.Name y py] (.ListComp elt [⟨tg, .Name x px, ifs, 0⟩] scope pos) spos) (setF j (lcF (own.map (·.2)) (dictS i) g t ef)) := by
  have P := ps_setLc (spos := spos) hc hN hy hyl hsw (pi_keys (tg := tg) (pe_var (pos := px) hx hv hdb hcd)) ok hg ht he hs
  refine PS.imp (PS.or P (ps_lock P)) fun D σ H ⟨F, Γ, k, h⟩ => ?_
  obtain ⟨r, Γ', e, h⟩ := sof_cases h
  obtain ⟨items, Γ1, e1, w1⟩ := Res.of_bind e
  split at w1
  · rename_i hz
    obtain ⟨ds, Γ2, e2, w2⟩ := Res.of_bind w1
    cases w2
    obtain ⟨F', d, k1, st1, hq⟩ := dict_slot k e1
    rcases hq with ⟨u, z1, z2, z3, z4⟩ | ⟨J, inv, T, hi, go⟩
    · refine .inr ⟨d, u, z3, z2, fun od => ?_⟩
      obtain ⟨J, inv, T, hi, go⟩ := z4 od
      have kl := k1.lock z1 z3 z2 od
      refine lc_gen (F := F') (Γ := Γ1) (small24_ok hz) (fun R hR => go R (hR J F' _ inv kl (Step.refl _) T hi)) e2 fun v F2 H2 k2 st2 rv => ?_
      obtain ⟨a, b, c⟩ := unlock_ok k1 z1 z3 z2 k2 st2
      obtain ⟨k3, st3⟩ := set_rv (i := j) b k.dom (st1.trans c) ((rv.unlock z1 st2).step st1)
      exact ⟨a, h _ F2 _ k3 st3⟩
    · refine .inl (lc_gen (F := F') (Γ := Γ1) (small24_ok hz) (fun R hR => go R (hR J F' _ inv k1 (Step.refl _) T hi)) e2 fun v F2 H2 k2 st2 rv => ?_)
      obtain ⟨k3, st3⟩ := set_rv (i := j) k2 k.dom (st1.trans st2) (rv.step st1)
      exact h _ F2 _ k3 st3
  · cases w1
theorem ee_dcD (tup : Bool) (i : Nat) {kx vx tg : Expr} {x : Str} {px : Pos} {ifs : List Expr} {scope : Scope} {own : List (Str × Nat)} {pos : Pos} {g : GF} {t : TF} {kf vf : EF} (hu : X.A.units + 1 < cLine) (hc : X.calm = true) (hN : X.N.Nodup) (ok : BlkOk X.N X.env.scope scope own)
    (hg : ∀ (s : Shared) (H : Hp) (C : Addr) (cl : List (Str × Addr)) (fp : List Addr), GW B (X.blk s H scope (compEnvC scope cl C X.env) fp) (own.map (·.2)) tg g) (ht : ∀ (s : Shared) (H : Hp) (C : Addr) (cl : List (Str × Addr)) (fp : List Addr), ETs B (X.blk s H scope (compEnvC scope cl C X.env) fp) ifs t)
    (hk : ∀ (s : Shared) (H : Hp) (C : Addr) (cl : List (Str × Addr)) (fp : List Addr), EE B (X.blk s H scope (compEnvC scope cl C X.env) fp) kx kf) (hvx : ∀ (s : Shared) (H : Hp) (C : Addr) (cl : List (Str × Addr)) (fp : List Addr), EE B (X.blk s H scope (compEnvC scope cl C X.env) fp) vx vf) (hx : X.N[i]? = some x := by rfl)
    (hv : Vis X.env.scope x := by first | exact Or.inl rfl | exact Or.inr (Or.inl rfl) | exact Or.inr (Or.inr rfl)) (hdb : (x == ("__debug__" : Str)) = false := by decide) (hcd : (x == ("__classdict__" : Str)) = false := by decide)
    (hs : ∀ v, foldedSetIterable (.Name x px) X.env v = pure v := by intro _; rfl) : EE B X (.DictComp kx vx [⟨tg, .Name x px, ifs, 0⟩] scope pos) (dcF tup (own.map (·.2)) (dictS i) g t kf vf) := by
  have P := pe_dcP (pos := pos) (o0_ok tup) hu hc hN (pi_keys (tg := tg) (pe_var (pos := px) hx hv hdb hcd)) ok hg ht hk hvx hs
  refine PE.imp (PE.or P (pe_lock P)) fun σ H Q h => ?_
  obtain ⟨F, Γ, r, Γ', k, e, q⟩ := toTE_ok h
  obtain ⟨items, Γ1, e1, w1⟩ := Res.of_bind e
  obtain ⟨cc, Γ2, e2, w2⟩ := Res.of_bind w1
  cases w2
  obtain ⟨F', d, k1, st1, hq⟩ := dict_slot k e1
  rcases hq with ⟨u, z1, z2, z3, z4⟩ | ⟨J, inv, T, hi, go⟩
  · refine .inr ⟨d, u, z3, z2, fun od => ?_⟩
    obtain ⟨J, inv, T, hi, go⟩ := z4 od
    have kl := k1.lock z1 z3 z2 od
    refine dc_gen (F := F') (Γ := Γ1) (fun R hR => go R (hR J F' _ inv kl (Step.refl _) T hi)) e2 fun v F2 H2 k2 st2 rv => ?_
    obtain ⟨a, b, c⟩ := unlock_ok k1 z1 z3 z2 k2 st2
    exact ⟨a, q v F2 _ b (st1.trans c) ((rv.unlock z1 st2).step st1)⟩
  · exact .inl (dc_gen (F := F') (Γ := Γ1) (fun R hR => go R (hR J F' _ inv k1 (Step.refl _) T hi)) e2 fun v F2 H2 k2 st2 rv => q v F2 _ k2 (st1.trans st2) (rv.step st1))
theorem s_setDcD (tup : Bool) (i j : Nat) {y : Str} {py : Pos} {kx vx tg : Expr} {x : Str} {px : Pos} {ifs : List Expr} {scope : Scope} {own : List (Str × Nat)} {pos spos : Pos} {g : GF} {t : TF} {kf vf : EF} (hu : X.A.units + 1 < cLine) (hc : X.calm = true) (hN : X.N.Nodup)
    (hsw : swapsWith (.DictComp kx vx [⟨tg, .Name x px, ifs, 0⟩] scope pos) (some (.Name y py)) spos.line X.env = pure true) (ok : BlkOk X.N X.env.scope scope own)
    (hg : ∀ (s : Shared) (H : Hp) (C : Addr) (cl : List (Str × Addr)) (fp : List Addr), GW B (X.blk s H scope (compEnvC scope cl C X.env) fp) (own.map (·.2)) tg g) (ht : ∀ (s : Shared) (H : Hp) (C : Addr) (cl : List (Str × Addr)) (fp : List Addr), ETs B (X.blk s H scope (compEnvC scope cl C X.env) fp) ifs t)
    (hk : ∀ (s : Shared) (H : Hp) (C : Addr) (cl : List (Str × Addr)) (fp : List Addr), EE B (X.blk s H scope (compEnvC scope cl C X.env) fp) kx kf) (hvx : ∀ (s : Shared) (H : Hp) (C : Addr) (cl : List (Str × Addr)) (fp : List Addr), EE B (X.blk s H scope (compEnvC scope cl C X.env) fp) vx vf) (hx : X.N[i]? = some x := by rfl)
    (hv : Vis X.env.scope x := by first | exact Or.inl rfl | exact Or.inr (Or.inl rfl) | exact Or.inr (Or.inr rfl)) (hdb : (x == ("__debug__" : Str)) = false := by decide) (hcd : (x == ("__classdict__" : Str)) = false := by decide)
    (hs : ∀ v, foldedSetIterable (.Name x px) X.env v = pure v := by intro _; rfl) (hy : X.N[j]? = some y := by rfl) (hyl : X.env.scope.names.lookup y = some .local := by rfl) :
    SS B X (.Assign [.Name y py] (.DictComp kx vx [⟨tg, .Name x px, ifs, 0⟩] scope pos) spos) (setF j (dcF tup (own.map (·.2)) (dictS i) g t kf vf)) := by
  have P := ps_setDcP (spos := spos) (o0_ok tup) hu hc hN hy hyl hsw (pi_keys (tg := tg) (pe_var (pos := px) hx hv hdb hcd)) ok hg ht hk hvx hs
  refine PS.imp (PS.or P (ps_lock P)) fun D σ H ⟨F, Γ, k, h⟩ => ?_
  obtain ⟨r, Γ', e, h⟩ := sof_cases h
  obtain ⟨items, Γ1, e1, w1⟩ := Res.of_bind e
  obtain ⟨cc, Γ2, e2, w2⟩ := Res.of_bind w1
  cases w2
  obtain ⟨F', d, k1, st1, hq⟩ := dict_slot k e1
  rcases hq with ⟨u, z1, z2, z3, z4⟩ | ⟨J, inv, T, hi, go⟩
  · refine .inr ⟨d, u, z3, z2, fun od => ?_⟩
    obtain ⟨J, inv, T, hi, go⟩ := z4 od
    have kl := k1.lock z1 z3 z2 od
    refine dc_gen (F := F') (Γ := Γ1) (fun R hR => go R (hR J F' _ inv kl (Step.refl _) T hi)) e2 fun v F2 H2 k2 st2 rv => ?_
    obtain ⟨a, b, c⟩ := unlock_ok k1 z1 z3 z2 k2 st2
    obtain ⟨k3, st3⟩ := set_rv (i := j) b k.dom (st1.trans c) ((rv.unlock z1 st2).step st1)
    exact ⟨a, h _ F2 _ k3 st3⟩
  · refine .inl (dc_gen (F := F') (Γ := Γ1) (fun R hR => go R (hR J F' _ inv k1 (Step.refl _) T hi)) e2 fun v F2 H2 k2 st2 rv => ?_)
    obtain ⟨k3, st3⟩ := set_rv (i := j) k2 k.dom (st1.trans st2) (rv.step st1)
    exact h _ F2 _ k3 st3
end
end PD
end

section
set_option maxHeartbeats 4000000
/-! PD14: stores, in, slices, powers, conversions. -/
namespace PD
open PySem PySem.Spec PyProof.Rows L2

/-! ### c[k] = v -/
def rPut (K : PySem.W.Frag) : TSet := fun o i v H Q => ∃ F p c kd d c', Ext F H ∧ o = .ref p ∧ F p = none ∧ OwnOk K F H p c ∧ Rep K F kd i ∧ Rep K F d v ∧ putO c kd d = some c' ∧ ∀ o', Mut (some o') → OwnOk K F (upd H p o') p c' → Q (upd H p o')
theorem set_put {X : Cx} (hu : X.A.units + 1 < cLine) : PSet X (rPut X.K) := by
  intro pins s σ H o i v ov iv u Q I ro ri rv h
  obtain ⟨F, p, c, kd, d, c', e, rfl, hF, ho, rk, rd, ep, q⟩ := h
  have dict : IsDct c → wpAny (model X.prog X.w) X.A (setItem ov iv u) (fun _ s' => ∃ H', Inv X pins σ H' s' ∧ Q H') X.xe s := fun hc => by
    obtain ⟨o', dp, m, oc⟩ := putO_dict e ho hc ep rk rd
    exact set_dict hu pins s σ H _ _ _ ov iv u Q I ro ri rv ⟨p, _, rfl, dp, q o' m (oc _ upd_same)⟩
  cases c with
  | dct kvs => exact dict (.inl ⟨_, rfl⟩)
  | dck kvs => exact dict (.inr ⟨_, rfl⟩)
  | lst ds =>
    cases kd with
    | int j =>
      obtain ⟨n, hn, rfl⟩ := Option.map_eq_some_iff.mp (show (ixN ds.length j).map _ = _ from ep)
      obtain ⟨vs, h1, h2⟩ := ho
      unfold Rep at rk
      exact set_list pins s σ H _ _ _ ov iv u Q I ro ri rv ⟨p, vs, j, n, rfl, rk, h1, by rw [h2.length]; exact hn, q _ trivial ⟨_, upd_same, h2.set n rd⟩⟩
    | _ => cases ep
def putF (i : Nat) (kf vf : EF) : SF := fun Γ => sof (vf Γ) fun r Γ1 => sof (ofOpt (slotD i Γ1) Γ1) fun _ Γ1 => sof (kf Γ1) fun r' Γ2 => match slotD i Γ2 with
  | some (.own t c) => match putO c r'.toD r.toD with
    | some c' => .nx (Γ2.set i (some (.own t c')))
    | none => .bad
  | _ => .bad
section
variable {B : Bx} {X : Cx}
theorem s_put (i : Nat) {x : Str} {k e : Expr} {px sp pos : Pos} {kf vf : EF} (hK : X.K = B.K) (hu : X.A.units + 1 < cLine) (hk : EE B X k kf) (he : EE B X e vf) (hN : X.N[i]? = some x := by rfl)
    (hv : Vis X.env.scope x := by first | exact Or.inl rfl | exact Or.inr (Or.inl rfl) | exact Or.inr (Or.inr rfl)) (hd : (x == ("__debug__" : Str)) = false := by decide) (hcd : (x == ("__classdict__" : Str)) = false := by decide)
    (ha : ∀ v, assign (.Subscript (.Name x px) k sp) X.env v = (do
      let ov ← holding [v] (eval (.Name x px) X.env)
      let iv ← holding [v, ov] (eval k X.env)
      standAt sp
      holding [v, ov, iv] (setItem ov iv v)
      release [v, ov, iv] []) := by intro _; rfl)
    (hs : swapsWithSole [.Subscript (.Name x px) k sp] e pos.line X.env = pure false := by rfl) (hw : swappedStores [.Subscript (.Name x px) k sp] e X.env = pure none := by rfl)
    (h1 : (assignEach [.Subscript (.Name x px) k sp] X.env).map (·.2) = [assign (.Subscript (.Name x px) k sp) X.env] := by rfl) : SS B X (.Assign [.Subscript (.Name x px) k sp] e pos) (putF i kf vf) :=
  PS.imp (ps_asg he (pg_sub (pe_var hN hv hd hcd) hk (set_put hu) ha) hs hw h1) fun D σ H ⟨F, Γ, k, h⟩ => by
    obtain ⟨r, Γ1, e1, ha1⟩ := sof_cases h
    obtain ⟨sv, Γ2, e20, ha2⟩ := sof_cases ha1
    obtain ⟨e2, rfl⟩ := of_ofOpt e20
    obtain ⟨r', Γ3, e3, h⟩ := sof_cases ha2
    refine toTE_fro k e1 fun v F1 H1 k1 st1 rv => ?_
    have hv : ∃ y, σ[i]? = some (some y) := by
      cases sv with
      | fro d =>
        obtain ⟨y, z, _⟩ := k1.fro i d (of_slotD e2)
        exact ⟨y, z⟩
      | own t c =>
        obtain ⟨y, z, _⟩ := k1.own i t c (of_slotD e2)
        exact ⟨_, z⟩
    obtain ⟨y, hy⟩ := hv
    refine ⟨y, hy, toTE_fro k1 e3 fun w F2 H2 k2 st2 rw1 => ?_⟩
    cases es : slotD i Γ3 with
    | none =>
      rw [es] at h
      exact h.elim
    | some sv2 =>
      rw [es] at h
      cases sv2 with
      | fro d => exact h.elim
      | own t c =>
        cases ep : putO c r'.toD r.toD with
        | none =>
          simp only [ep] at h
          exact h.elim
        | some c' =>
          simp only [ep] at h
          have ei := of_slotD es
          obtain ⟨p, a1, a2, a3, a4⟩ := k2.own i t c ei
          have a1' : σ[i]? = some (some (.ref p)) := a1
          rw [hy] at a1'
          have ey : y = .ref p := by
            injection a1' with a1'
            injection a1'
          subst ey
          rw [hK]
          refine ⟨F2, p, c, _, _, c', k2.ext, rfl, a2, a3, rw1, rv.same st2.same, ep, fun o' m ho => ?_⟩
          obtain ⟨k3, st3⟩ := own_put k2 ei a1 m ho
          exact h σ F2 _ k3 ((st1.trans st2).trans st3)
end

/-! ### in, not in -/
def keySort : PyData → Nat
  | .tuple _ => 1
  | .int _ => 0
  | .str _ => 0
  | _ => 2
def keyFits (d : PyData) : Bool := match d with
  | .tuple ks => (keysOf ks).isSome
  | d => (keyOf d).isSome
def inD : List PyData → Option Bool
  | [d, .list xs] => if SeqAt.shaped d = true ∧ SeqAt.shaped (.list xs) = true then some (xs.any fun z => PyData.eqv z d) else none
  | [d, .tuple xs] => if SeqAt.shaped d = true ∧ SeqAt.shaped (.tuple xs) = true then some (xs.any fun z => PyData.eqv z d) else none
  | [d, .dict kvs] => if keyFits d = true ∧ (kvs.all fun p => keySort p.1 == keySort d) = true then some (dget kvs d).isSome else none
  | _ => none
def opIn : List PyData → Option RV := fun ds => (inD ds).map fun b => .fro (.bool b)
def opNotIn : List PyData → Option RV := fun ds => (inD ds).map fun b => .fro (.bool (!b))
section
variable {X : Cx} {pins : List (Addr × Obj)} {σ : L2.St} {H F : Hp} {s : Shared}
theorem repT_sort {K : PySem.W.Frag} : ∀ {kvs : List (PyData × PyData)} {ks : List (List Key × V)} {n : Nat}, RepT K F kvs ks → (kvs.all fun p => keySort p.1 == n) = true → n = 1 ∨ kvs = [] ∧ ks = []
  | [], _, n, h, _ => .inr ⟨rfl, h⟩
  | (kd, d) :: r, _, n, h, a => by
    obtain ⟨kk, v, r', rfl, rfl, _, _⟩ := h
    rw [List.all_cons, Bool.and_eq_true] at a
    have := a.1
    simp [keySort] at this
    exact .inl this.symm
theorem repA_sort {K : PySem.W.Frag} : ∀ {kvs : List (PyData × PyData)} {ks : List (Key × V)} {n : Nat}, RepA K F kvs ks → (kvs.all fun p => keySort p.1 == n) = true → n = 0 ∨ kvs = [] ∧ ks = []
  | [], _, n, h, _ => .inr ⟨rfl, h⟩
  | (kd, d) :: r, _, n, h, a => by
    obtain ⟨kk, v, r', rfl, rfl, _, _⟩ := h
    rw [List.all_cons, Bool.and_eq_true] at a
    have := a.1
    cases kk <;> simp [keyD, keySort] at this <;> exact .inl this.symm
/-- y in the dict at a, by the walk's rules -/
theorem in_dict {Q : Value → Shared → Prop} {E : Value → Shared → Prop} {d : PyData} {kvs : List (PyData × PyData)} {y : V} {u : Value} {a : Addr} (neg : Bool) (hu : X.A.units + 1 < cLine) (I : Inv X pins σ H s)
    (hd : (∃ ks, Rd H a (.dT ks) ∧ RepT X.K F kvs ks) ∨ (∃ ks, Rd H a (.dK ks) ∧ RepA X.K F kvs ks)) (hf : keyFits d = true) (hs : (kvs.all fun p => keySort p.1 == keySort d) = true) (e : Ext F H) (rk : RepB X.K F H d y) (ry : RelV y u)
    (q : ∀ s', Inv X pins σ H s' → Q (.bool (if neg = true then !(dget kvs d).isSome else (dget kvs d).isSome)) s') :
    wpAny (model X.prog X.w) X.A (compareOp (if neg = true then .NotIn else .In) u (.ref a)) Q E s := by
  have byKey : ∀ (k : Key), d = keyD k → y = kV k → wpAny (model X.prog X.w) X.A (compareOp (if neg = true then .NotIn else .In) u (.ref a)) Q E s := fun k ed ey => by
    subst ed ey
    have got : ∃ (vs : List (Key × Value)) (o : Option Value), (a == sysModules) = false ∧ s.heap.DictOf (mixKind X.prog X.w) a vs ∧ valueAt vs k = o ∧ o.isSome = (dget kvs (keyD k)).isSome := by
      rcases hd with ⟨ks, h1, h2⟩ | ⟨ks, h1, h2⟩
      · rcases repT_sort h2 hs with z | ⟨rfl, rfl⟩
        · cases k <;> cases z
        · obtain ⟨z, hn, xs, rel, ob, es, ep, g1, g2, g3, g4, g5, g6⟩ := dt_rd I.hok h1
          cases rel
          have es0 : es = #[] := by
            have : es.toList = [] := g4
            exact Array.toList_eq_nil_iff.mp this
          subst es0
          exact ⟨[], none, hn, ⟨ob, #[], ep, g1, g2, g3, by intro x hx; simp at hx, Pairs.nil, by simp⟩, rfl, rfl⟩
      · obtain ⟨z, hn, vs, rel, dd⟩ := dk_rd I.hok h1
        refine ⟨vs, _, hn, dd, rfl, ?_⟩
        rw [← (rel.val k).isSome_eq]
        rcases h2.get k with ⟨z1, z2⟩ | ⟨v, d', z1, z2, _⟩
        · rw [z1, z2]
          rfl
        · rw [z1, z2]
          rfl
    obtain ⟨vs, o, hn, dd, eo, eq⟩ := got
    subst eo
    have fin := fun t => q _ (I.tok t)
    rw [← eq] at fin
    cases neg with
    | true => exact wpAny_notIn_of (kV_is ry) hn dd.mapOf (fin _)
    | false => exact wpAny_in_of (kV_is ry) hn dd.mapOf (fin _)
  cases d with
  | int i => exact byKey (.inl i) rfl rk.int
  | str x => exact byKey (.inr x) rfl rk.str
  | tuple xs =>
    obtain ⟨k, ek⟩ := Option.isSome_iff_exists.mp (show (keysOf xs).isSome = true from hf)
    have ex := keysOf_some ek
    subst ex
    obtain ⟨b, ws, rfl, s1, r1, _⟩ := rk.tuple e
    have ev := repL_keysD r1
    subst ev
    cases (show u = Value.ref b from ry)
    have got : ∃ (xs : List (List Key × Addr × Value)), (a == sysModules) = false ∧ s.heap.DictOfH (tupleKind (mixKind X.prog X.w)) a xs ∧ (atKey xs k).isSome = (dget kvs (.tuple (k.map keyD))).isSome := by
      rcases hd with ⟨ks, h1, h2⟩ | ⟨ks, h1, h2⟩
      · obtain ⟨z, hn, xs, rel, dd⟩ := dt_rd I.hok h1
        refine ⟨xs, hn, dd, ?_⟩
        have q1 := (rel.val k).isSome_eq
        rw [Option.isSome_map] at q1
        rw [← q1]
        rcases h2.get k with ⟨z1, z2⟩ | ⟨v, d', z1, z2, _⟩
        · rw [z1, z2]
          rfl
        · rw [z1, z2]
          rfl
      · rcases repA_sort h2 hs with z | ⟨rfl, rfl⟩
        · cases z
        · obtain ⟨z, hn, vs, rel, ob, es, ep, g1, g2, g3, g4, g5, g6⟩ := dk_rd I.hok h1
          cases rel
          have es0 : es.toList = [] := by
            have l := g5.length
            simp only [List.length_nil] at l
            exact List.length_eq_zero_iff.mp l
          exact ⟨[], hn, ⟨ob, es, ep, g1, g2, g3, es0, by intro x hx; simp at hx, by simp⟩, rfl⟩
    obtain ⟨vs, hn, dd, eq⟩ := got
    have fin := fun t => q _ (I.tok t)
    rw [← eq] at fin
    cases neg with
    | true => exact wpAny_notIn_heap (tupleKind_room_in1 hu) (key_is I s1) hn dd (fin _)
    | false => exact wpAny_in_heap (tupleKind_room_in1 hu) (key_is I s1) hn dd (fin _)
  | _ => cases hf
theorem in_seq {Q : Value → Shared → Prop} {E : Value → Shared → Prop} {d c : PyData} {xs : List PyData} {x y : V} {u v : Value} (neg : Bool) (hu : X.A.units + 65 < cLine) (I : Inv X pins σ H s) (hc : c = .list xs ∨ c = .tuple xs) (s1 : SeqAt.shaped d = true) (s2 : SeqAt.shaped c = true)
    (rx : Rep X.K H d x) (ry : Rep X.K H c y) (ru : RelV x u) (rv : RelV y v) (q : Q (.bool (if neg = true then !(xs.any fun z => PyData.eqv z d) else xs.any fun z => PyData.eqv z d)) s) :
    wpAny (model X.prog X.w) X.A (compareOp (if neg = true then .NotIn else .In) u v) Q E s := by
  have l1 := SeqAt.canLay_of_shaped s1
  have l2 := SeqAt.canLay_of_shaped s2
  obtain ⟨as, r1⟩ := rd_of_rep I rx ru l1
  obtain ⟨bs, r2⟩ := rd_of_rep I ry rv l2
  rcases hc with rfl | rfl
  · cases neg with
    | true => exact SeqAt.notIn_list_reads r2 r1 l2 l1 (room_in_shaped s1 hu) q
    | false => exact SeqAt.in_list_reads r2 r1 l2 l1 (room_in_shaped s1 hu) q
  · cases neg with
    | true => exact SeqAt.notIn_tuple_reads r2 r1 l2 l1 (room_in_shaped s1 hu) q
    | false => exact SeqAt.in_tuple_reads r2 r1 l2 l1 (room_in_shaped s1 hu) q
theorem inD_run {x y : V} {v u : Value} {ds : List PyData} {b : Bool} {Q : VK} (neg : Bool) (hu : X.A.units + 65 < cLine) (I : Inv X pins σ H s) (rx : RelV x v) (ry : RelV y u) (e : Ext F H) (rb : RepBs X.K F H ds [x, y]) (eo : inD ds = some b)
    (q : ∀ s', Inv X pins σ H s' → Q (.bl (if neg = true then !b else b)) H) : wpAny (model X.prog X.w) X.A (compareOp (if neg = true then .NotIn else .In) v u) (EP X pins σ Q) X.xe s := by
  unfold inD at eo
  split at eo
  · split at eo
    · rename_i hc
      cases eo
      obtain ⟨x', y', ee, h1, h2⟩ := rb.two
      cases ee
      exact in_seq neg hu I (.inl rfl) hc.1 hc.2 (h1.rep e) (h2.rep e) rx ry ⟨.bl _, H, I, rfl, q s I⟩
    · cases eo
  · split at eo
    · rename_i hc
      cases eo
      obtain ⟨x', y', ee, h1, h2⟩ := rb.two
      cases ee
      exact in_seq neg hu I (.inr rfl) hc.1 hc.2 (h1.rep e) (h2.rep e) rx ry ⟨.bl _, H, I, rfl, q s I⟩
    · cases eo
  · split at eo
    · rename_i hc
      cases eo
      obtain ⟨x', y', ee, h1, h2⟩ := rb.two
      cases ee
      obtain ⟨a, rfl, hd⟩ := h2.dict e
      cases (show u = Value.ref a from ry)
      exact in_dict neg (by omega) I hd hc.1 hc.2 e h1 rx fun s' I' => ⟨.bl _, H, I', rfl, q s' I'⟩
    · cases eo
  · cases eo
theorem or_in (hu : X.A.units + 65 < cLine) : OpR X (compareOp .In) (rD2 X.K opIn) := by
  intro pins s σ H x y v u Q I rx ry h
  obtain ⟨F, ds, rv, e, rb, eo, q⟩ := h
  obtain ⟨b, eb, rfl⟩ := Option.map_eq_some_iff.mp (show (inD ds).map _ = _ from eo)
  exact inD_run false hu I rx ry e rb eb fun s' I' => q _ F H (Grow.refl e) (rvg_bl _)
theorem or_notin (hu : X.A.units + 65 < cLine) : OpR X (compareOp .NotIn) (rD2 X.K opNotIn) := by
  intro pins s σ H x y v u Q I rx ry h
  obtain ⟨F, ds, rv, e, rb, eo, q⟩ := h
  obtain ⟨b, eb, rfl⟩ := Option.map_eq_some_iff.mp (show (inD ds).map _ = _ from eo)
  exact inD_run true hu I rx ry e rb eb fun s' I' => q _ F H (Grow.refl e) (rvg_bl _)
end

/-! ### powers -/
def opPow : List PyData → Option RV
  | [.int a, .int b] => if decide (0 ≤ b) && decide ((Builtin.Int.intBits a : Int) * b ≤ 134217728) then some (.fro (.int (a ^ b.toNat))) else none
  | _ => none
theorem or_pow {X : Cx} : OpR X (binaryOp .Pow) (rD2 X.K opPow) := by
  intro pins s σ H x y v u Q I rx ry h
  obtain ⟨F, ds, rv, e, rb, eo, q⟩ := h
  unfold opPow at eo
  split at eo
  · obtain ⟨rfl, rfl⟩ := ints_two rb
    split at eo
    · rename_i hc
      rw [Bool.and_eq_true] at hc
      cases eo
      obtain ⟨t1, rfl⟩ := rx
      obtain ⟨t2, rfl⟩ := ry
      have h2 := of_decide_eq_true hc.2
      have e27 : (2 : Int) ^ 27 = 134217728 := by decide
      refine PyProof.Rows.pow_int (of_decide_eq_true hc.1) ?_ ⟨.int _, H, I.tok _, ⟨_, rfl⟩, q _ F H (Grow.refl e) (rvg_int _)⟩
      rw [e27]
      exact h2
    · cases eo
  · cases eo

/-! ### slices -/
abbrev OF := Option EF
def partF : OF → Env → Res (Option Int)
  | none, Γ => .ok none Γ
  | some f, Γ => (f Γ).bind fun r Γ' => (ofOpt (asInt r.toD) Γ').bind fun i Γ' => .ok (some i) Γ'
def cutD (xs : List PyData) (lo hi : Option Int) : List PyData := (xs.drop (HT.sIx xs.length 0 lo)).take (HT.sIx xs.length xs.length hi - HT.sIx xs.length 0 lo)
def sliceD (d : PyData) (lo hi : Option Int) : Option RV := match d with
  | .list xs => some (.nw (.lst (cutD xs lo hi)))
  | .tuple xs => some (.fro (.tuple (cutD xs lo hi)))
  | _ => none
def sliceF (a : EF) (lo hi : OF) : EF := fun Γ => (a Γ).bind fun r Γ1 => (partF lo Γ1).bind fun l Γ2 => (partF hi Γ2).bind fun h Γ3 => ofOpt (sliceD r.toD l h) Γ3
def toTO (B : Bx) : OF → TO
  | none => tNoPart
  | some f => tPart (toTE B f)
section
variable {B : Bx} {X : Cx}
abbrev EO (B : Bx) (X : Cx) (e : Option Expr) (f : OF) : Prop := PO X e (toTO B f)
theorem eo_none : EO B X none none := po_none
theorem eo_some {e : Expr} {f : EF} (h : EE B X e f) : EO B X (some e) (some f) := po_some h
theorem part_run {o : OF} {F H : Hp} {σ : L2.St} {Γ Γ' : Env} {i : Option Int} {Q : Option Int → Hp → Prop} (k : Ok B ⟨F, H, σ, Γ⟩) (e : partF o Γ = .ok i Γ') (h : ∀ F' H', Ok B ⟨F', H', σ, Γ'⟩ → Step ⟨F, H, σ, Γ⟩ ⟨F', H', σ, Γ'⟩ → Q i H') : toTO B o σ H Q := by
  cases o with
  | none =>
    cases e
    exact h F H k (Step.refl _)
  | some f =>
    obtain ⟨r, Γ1, e1, e2⟩ := Res.of_bind (show (f Γ).bind _ = _ from e)
    obtain ⟨j, Γ2, e3, e4⟩ := Res.of_bind e2
    obtain ⟨e3', rfl⟩ := of_ofOpt e3
    cases e4
    refine toTE_fro k e1 fun v F1 H1 k1 st1 rp => ?_
    rw [asInt_some e3'] at rp
    unfold Rep at rp
    exact ⟨j, rp, h F1 H1 k1 st1⟩
def rSl (K : PySem.W.Frag) : V → Option Int → Option Int → Hp → VK → Prop := fun x lo hi H Q => ∃ F d rv, Ext F H ∧ Rep K F d x ∧ sliceD d lo hi = some rv ∧ ∀ v F' H', Grow F H F' H' → RVg K F' H' H v rv → Q v H'
theorem cutV_rep {K : PySem.W.Frag} {F : Hp} {ds : List PyData} {vs : List V} (h : RepL K F ds vs) (lo hi : Option Int) : RepL K F (cutD ds lo hi) (cutV vs lo hi) := by
  unfold cutD cutV
  rw [h.length]
  exact (h.drop _).take _
theorem sl_data : SlR X (rSl X.K) := by
  intro pins s σ H x v vl vu lo hi sl Q I rx hs pl pu h
  obtain ⟨F, d, rv, e, rd, es, q⟩ := h
  unfold sliceD at es
  split at es
  · cases es
    obtain ⟨a, vs, rfl, h1, h2⟩ := rd
    refine sl_list pins s σ H _ v vl vu lo hi sl Q I rx hs pl pu ⟨a, vs, rfl, e.seqL h1.sq, fun p hp => ?_⟩
    exact q _ F _ (Grow.new e (.lst _) hp) ⟨p, rfl, e.none hp, ⟨_, upd_same, cutV_rep h2 lo hi⟩, hp⟩
  · cases es
    rename_i xs
    obtain ⟨a, vs, rfl, h1, h2⟩ := id rd
    by_cases hw : HT.sIx vs.length 0 lo = 0 ∧ HT.sIx vs.length vs.length hi = vs.length
    · have ew : cutD xs lo hi = xs := by
        unfold cutD
        rw [h2.length] at hw
        rw [hw.1, hw.2]
        simp
      refine sl_tupA pins s σ H _ v vl vu lo hi sl Q I rx hs pl pu ⟨a, vs, rfl, e.seqT h1.sq, fun _ => q _ F H (Grow.refl e) ?_, fun hn => absurd hw hn⟩
      rw [ew]
      exact rd
    · refine sl_tup pins s σ H _ v vl vu lo hi sl Q I rx hs pl pu ⟨a, vs, rfl, e.seqT h1.sq, hw, fun p hp => ?_⟩
      exact q _ (upd F p (.tup (cutV vs lo hi))) _ (Grow.newF e (.tup _) hp) ⟨p, _, rfl, .inl upd_same, (cutV_rep h2 lo hi).same (same_upd (e.none hp))⟩
  · cases es
theorem slice_te {a : EF} {lo hi : OF} {σ : L2.St} {H : Hp} {Q : VK} (h : toTE B (sliceF a lo hi) σ H Q) : tSl (rSl B.K) (toTE B a) (toTO B lo) (toTO B hi) σ H Q := by
  obtain ⟨F, Γ, r, Γ', k, e, q⟩ := toTE_ok h
  obtain ⟨r1, Γ1, e1, w1⟩ := Res.of_bind e
  obtain ⟨l, Γ2, e2, w2⟩ := Res.of_bind w1
  obtain ⟨u, Γ3, e3, w3⟩ := Res.of_bind w2
  obtain ⟨e4, rfl⟩ := of_ofOpt w3
  refine toTE_fro k e1 fun v F1 H1 k1 st1 r1 => part_run k1 e2 fun F2 H2 k2 st2 => part_run k2 e3 fun F3 H3 k3 st3 => ?_
  refine ⟨F3, _, _, k3.ext, r1.same (st2.trans st3).same, e4, fun w F4 H4 g rv => ?_⟩
  obtain ⟨k4, st4⟩ := k3.grow g
  exact q w F4 H4 k4 (((st1.trans st2).trans st3).trans st4) (rv.ok k3 ((st1.trans st2).trans st3))
theorem ee_slice {a : Expr} {lo hi : Option Expr} {fa : EF} {fl fh : OF} {p2 pos : Pos} (hK : X.K = B.K) (ha : EE B X a fa) (hl : EO B X lo fl) (hh : EO B X hi fh) : EE B X (.Subscript a (.Slice lo hi none p2) pos) (sliceF fa fl fh) :=
  PE.imp (pe_slice sl_data ha hl hh) fun σ H Q h => by
    rw [hK]
    exact slice_te h
end

/-! ### list(..), tuple(..) -/
def opList : List PyData → Option RV
  | [.list xs] => some (.nw (.lst xs))
  | [.tuple xs] => some (.nw (.lst xs))
  | [.dict kvs] => some (.nw (.lst (kvs.map (·.1))))
  | _ => none
def opTuple : List PyData → Option RV
  | [.list xs] => some (.fro (.tuple xs))
  | [.tuple xs] => some (.fro (.tuple xs))
  | _ => none
section
variable {X : Cx}
theorem repL_refs {K : PySem.W.Frag} {F H : Hp} (e : Ext F H) : ∀ {kvs : List (PyData × PyData)} {ks : List (List Key × V)} {bs : List Addr}, RepT K F kvs ks → IsKeys H ks bs → RepL K (plus F H) (kvs.map (·.1)) (bs.map V.ref)
  | [], _, bs, h, hb => by
    have h' : _ = [] := h
    subst h'
    cases hb
    exact rfl
  | (kd, d) :: r, _, bs, h, hb => by
    obtain ⟨kk, v, r', rfl, rfl, _, h4⟩ := h
    cases hb with
    | cons q t => exact RepL.cons ⟨_, _, rfl, .inl (plus_tup e q), repL_kV kk⟩ (repL_refs e h4 t)
theorem repL_keysA {K : PySem.W.Frag} {F : Hp} : ∀ {kvs : List (PyData × PyData)} {ks : List (Key × V)}, RepA K F kvs ks → RepL K F (kvs.map (·.1)) (ks.map fun kv => kV kv.1)
  | [], _, h => by
    have h' : _ = [] := h
    subst h'
    exact rfl
  | (kd, d) :: r, _, h => by
    obtain ⟨kk, v, r', rfl, rfl, _, h4⟩ := h
    exact RepL.cons (rep_kV kk) (repL_keysA h4)
theorem ct_list (hc : X.calm = true) : CallR X (.type "list") (rD X.K opList) := by
  intro pins s σ H vs us Q I r h
  obtain ⟨F, ds, rv, e, rb, eo, q⟩ := h
  have fin : ∀ {xs : List PyData} {ws : List V} {l : Addr}, RepL X.K F xs ws → H l = none → rv = .nw (.lst xs) → Q (.ref l) (upd H l (.lst ws)) := fun {xs ws l} r1 hl ev => by
    subst ev
    exact q _ F _ (Grow.new e (.lst ws) hl) ⟨l, rfl, e.none hl, ⟨_, upd_same, r1⟩, hl⟩
  unfold opList at eo
  split at eo
  · obtain ⟨x, rfl, h1⟩ := rb.one
    obtain ⟨a, ws, rfl, s1, r1⟩ := h1.list e
    cases eo
    exact call_list_of pins s σ H _ us Q I r ⟨a, ws, rfl, .inl s1, fun l hl => fin r1 hl rfl⟩
  · obtain ⟨x, rfl, h1⟩ := rb.one
    obtain ⟨a, ws, rfl, s1, r1, _⟩ := h1.tuple e
    cases eo
    exact call_list_of pins s σ H _ us Q I r ⟨a, ws, rfl, .inr s1, fun l hl => fin r1 hl rfl⟩
  · obtain ⟨x, rfl, h1⟩ := rb.one
    obtain ⟨a, rfl, hd⟩ := h1.dict e
    cases eo
    rcases hd with ⟨ks, h2, h3⟩ | ⟨ks, h2, h3⟩
    · refine call_list_dT hc pins s σ H _ us Q I r ⟨a, ks, rfl, h2, fun p bs hp hk => ?_⟩
      refine q _ (plus F H) _ ((Grow.tups e).trans (Grow.new (Grow.tups e).ext (.lst _) hp)) ⟨p, rfl, (Grow.tups e).ext.none hp, ⟨_, upd_same, repL_refs e h3 hk⟩, hp⟩
    · exact call_listD hc pins s σ H _ us Q I r ⟨a, ks, rfl, h2, fun p hp => fin (repL_keysA h3) hp rfl⟩
  · cases eo
theorem ct_tuple : CallR X (.type "tuple") (rD X.K opTuple) := by
  intro pins s σ H vs us Q I r h
  obtain ⟨F, ds, rv, e, rb, eo, q⟩ := h
  unfold opTuple at eo
  split at eo
  · obtain ⟨x, rfl, h1⟩ := rb.one
    obtain ⟨a, ws, rfl, s1, r1⟩ := h1.list e
    cases eo
    exact call_tuple_of pins s σ H _ us Q I r ⟨a, ws, rfl, .inl ⟨s1, fun l hl => q _ (upd F l (.tup ws)) _ (Grow.newF e (.tup _) hl) ⟨l, _, rfl, .inl upd_same, r1.same (same_upd (e.none hl))⟩⟩⟩
  · obtain ⟨x, rfl, h1⟩ := rb.one
    obtain ⟨a, ws, rfl, s1, r1, r2⟩ := h1.tuple e
    cases eo
    exact call_tuple_of pins s σ H _ us Q I r ⟨a, ws, rfl, .inr ⟨s1, q _ F H (Grow.refl e) r2⟩⟩
  · cases eo
end
end PD
end

section
set_option maxHeartbeats 4000000
/-! PD15: a def's promise is what its body computes. -/
namespace PD
open PySem PySem.Spec PyProof.Rows L2
def runO (args : List SV) : SO → FO
  | .rt r Γ => match outOf 0 args Γ with
    | some outs => .ok r outs
    | none => .bad
  | .nx Γ => match outOf 0 args Γ with
    | some outs => .ok (.fro .none) outs
    | none => .bad
  | _ => .bad
def runB (n m : Nat) (b : SF) : Fn := fun args => if args.length = n then runO args (b (entryΓ m args)) else .bad
theorem keeps_run (n m : Nat) (b : SF) : Keeps (runB n m b) n m b := by
  intro args r outs hl h
  unfold runB at h
  rw [if_pos hl] at h
  unfold runO at h
  split at h
  · rename_i r0 Γ e
    split at h
    · cases h
      rename_i e2
      exact ⟨Γ, .inl e, e2⟩
    · cases h
  · rename_i Γ e
    split at h
    · cases h
      rename_i e2
      exact ⟨Γ, .inr ⟨e, rfl⟩, e2⟩
    · cases h
  · cases h
section
variable {P : Program} {w : World} {K : PySem.W.Frag} {mg : Str → Option Value} {base : Heap}
theorem def_run {x : Str} {st : Stmt} {f : Addr} {fd : FuncData} {N ps : List Str} {k : Nat} {b : SF} (D : FunD K x x (defArgs st) (defBody st) (defScope st) [] [] f fd) (hm : mg x = some (.ref f)) (S : FnScope N ps (defScope st))
    (hbind : ∀ (kV doc pm : Value) (an : Option Addr) (cdv ct : Value) (us : List Value), us.length = ps.length → bindArgs (PySem.W.fnOf x x (defArgs st) (defBody st) (defScope st) .none kV doc pm an cdv ct) ⟨us, []⟩ = pure (ps.zip us))
    (hb : ∀ (cdv : Value) (A : Around) (outer : List L2Env) (s : Shared) (H : Hp) (vs : List V) (E : XK), Room k (A.deeper (envOfC x (defScope st) s.heap.objs.size f cdv)) → (A.deeper (envOfC x (defScope st) s.heap.objs.size f cdv)).guards = some [] → SSs ⟨K, vs, H⟩ (cxD P w K mg base N x (defScope st) f cdv A outer s H E) (defBody st) b) :
    Def P w K mg base x st ps (k + 1) (runB ps.length (N.length - ps.length) b) := def_ok D hm S hbind hb (keeps_run _ _ _)
end
theorem units1 {k : Nat} {A : Around} (r : Room k A) : A.units + 1 < cLine := by
  have := r.un
  omega
theorem units65 {k : Nat} {A : Around} (r : Room k A) : A.units + 65 < cLine := by
  have := r.un
  omega
end PD
end

section
set_option maxHeartbeats 4000000
/-! PD16: calls by keywords; three names at once. -/
namespace PD
open PySem PySem.Spec PyProof.Rows L2

def permL {α : Type} (perm : List Nat) (l : List α) : List α := perm.filterMap fun j => l[j]?
theorem Vals.get {vs : List V} {us : List Value} (h : Vals vs us) : ∀ j : Nat, (vs[j]? = none ∧ us[j]? = none) ∨ ∃ v u, vs[j]? = some v ∧ us[j]? = some u ∧ RelV v u := by
  induction h with
  | nil => exact fun j => .inl ⟨by simp, by simp⟩
  | @cons a b as bs r t ih =>
    intro j
    cases j with
    | zero => exact .inr ⟨a, b, rfl, rfl, r⟩
    | succ j => simpa using ih j
theorem Vals.perm {vs : List V} {us : List Value} (h : Vals vs us) : ∀ perm : List Nat, Vals (permL perm vs) (permL perm us)
  | [] => .nil
  | j :: js => by
    have t := Vals.perm h js
    unfold permL at t ⊢
    rcases Vals.get h j with ⟨e1, e2⟩ | ⟨v, u, e1, e2, r⟩
    · rw [List.filterMap_cons_none e1, List.filterMap_cons_none e2]
      exact t
    · rw [List.filterMap_cons_some e1, List.filterMap_cons_some e2]
      exact .cons r t
section
variable {B : Bx} {X : Cx}
theorem RepAVs.nth {s : Sx} : ∀ {avs : List AV} {vs : List V} (j : Nat), RepAVs B s avs vs → (avs[j]? = none ∧ vs[j]? = none) ∨ ∃ a v, avs[j]? = some a ∧ vs[j]? = some v ∧ RepAV B s a v
  | [], vs, j, h => by
    have h' : vs = [] := h
    subst h'
    exact .inl ⟨by simp, by simp⟩
  | a :: avs, vs, j, h => by
    obtain ⟨v, r, rfl, h1, h2⟩ := h
    cases j with
    | zero => exact .inr ⟨a, v, rfl, rfl, h1⟩
    | succ j => simpa using RepAVs.nth j h2
theorem RepAVs.perm {s : Sx} {avs : List AV} {vs : List V} (h : RepAVs B s avs vs) : ∀ perm : List Nat, RepAVs B s (permL perm avs) (permL perm vs)
  | [] => rfl
  | j :: js => by
    have t := RepAVs.perm h js
    unfold permL at t ⊢
    rcases RepAVs.nth j h with ⟨e1, e2⟩ | ⟨a, v, e1, e2, r⟩
    · rw [List.filterMap_cons_none e1, List.filterMap_cons_none e2]
      exact t
    · rw [List.filterMap_cons_some e1, List.filterMap_cons_some e2]
      exact ⟨v, _, rfl, r, t⟩
theorem RepAVs.length {s : Sx} : ∀ {avs : List AV} {vs : List V}, RepAVs B s avs vs → vs.length = avs.length
  | [], vs, h => by
    have h' : vs = [] := h
    rw [h']
    rfl
  | a :: avs, vs, h => by
    obtain ⟨v, r, rfl, h1, h2⟩ := h
    rw [List.length_cons, List.length_cons, RepAVs.length h2]
abbrev EKs (B : Bx) (X : Cx) (kws : List Keyword) (as : List ArgF) : Prop := PK X kws (toTAa B as)
theorem ek_nil : EKs B X [] [] := pk_nil
theorem ek_cons {nm : Option Str} {e : Expr} {kpos : Pos} {kws : List Keyword} {a : ArgF} {as : List ArgF} (h : EA B X e a) (hr : EKs B X kws as) : EKs B X (⟨nm, e, kpos⟩ :: kws) (a :: as) := pk_cons h hr
def callKF (φ : Fn) (n : Nat) (perm : List Nat) (as : List ArgF) : EF := fun Γ => (evalArgs as Γ).bind fun bvs Γ1 => if (permL perm bvs).length = n ∧ (slotsOf (permL perm bvs)).Nodup then (ofOpt (mkSV 0 (permL perm bvs) Γ1) Γ1).bind fun svs Γ1 => match φ svs with
  | .ok r outs => (ofOpt (backs (permL perm bvs) outs Γ1) Γ1).bind fun Γ2 _ => .ok r Γ2
  | .bad => .bad
  else .bad
theorem callKF_te {φ : Fn} {as : List ArgF} {perm : List Nat} {σ : L2.St} {H : Hp} {Q : VK} {E : XK} {n : Nat} (h : toTE B (callKF φ n perm as) σ H Q) : (fun σ H Q => toTAa B as σ H fun zs H2 => zs.length = as.length ∧ spF B.K n φ (permL perm zs) H2 Q E) σ H Q := by
  obtain ⟨F, Γ, r, Γ', k, e, q⟩ := toTE_ok h
  obtain ⟨avs, Γ1, e1, w1⟩ := Res.of_bind e
  split at w1
  · rename_i hd
    obtain ⟨svs, Γ2, e2', w2⟩ := Res.of_bind w1
    obtain ⟨e2, rfl⟩ := of_ofOpt e2'
    split at w2
    · rename_i r' outs e3
      obtain ⟨Γ3, Γ4, e4', w3⟩ := Res.of_bind w2
      obtain ⟨e4, rfl⟩ := of_ofOpt e4'
      cases w3
      show toTAa B as σ H _
      refine args_run k e1 fun vs F1 H1 k1 st1 rp => ?_
      refine ⟨by rw [rp.length, evalArgs_length e1], ?_⟩
      exact call_core k1 (rp.perm perm) hd.1 hd.2 e2 e3 e4 fun v F2 H2 k2 st2 rv => q v F2 H2 k2 (st1.trans st2) (rv.step st1)
    · cases w2
  · cases w1
theorem ee_callK (perm : List Nat) (ks : List Str) {x : Str} {st : Stmt} {ps : List Str} {j k : Nat} {φ : Fn} {p pos : Pos} {kws : List Keyword} {as : List ArgF} (hK : X.K = B.K) (D : Def X.prog X.w X.K X.mg X.base x st ps k φ) (hr : Room j X.A) (hq : X.A.guards = some []) (hj : k ≤ j)
    (hbk : ∀ (kV doc pm : Value) (an : Option Addr) (cdv ct : Value) (ws : List Value), ws.length = as.length → bindArgs (PySem.W.fnOf x x (defArgs st) (defBody st) (defScope st) .none kV doc pm an cdv ct) ⟨[], ks.zip ws⟩ = pure (ps.zip (permL perm ws)))
    (ha : EKs B X kws as) (hg : Gl X x) (hn : ps ≠ [] := by decide) (hall : (backToKw pos (keywordEach kws X.env)).all (·.1.isSome) = true := by rfl) (hks : (backToKw pos (keywordEach kws X.env)).filterMap (·.1) = ks := by rfl)
    (hdb : (x == ("__debug__" : Str)) = false := by decide) (hpl : ((backTo pos (starEach [] X.env)).any (·.1) || (backToKw pos (keywordEach kws X.env)).any (·.1.isNone)) = false := by rfl) :
    EE B X (.Call (.Name x p) [] kws pos) (callKF φ ps.length perm as) := by
  obtain ⟨f, fd, hm, FD, hb, F⟩ := D.ex
  have kb : ∀ (s : Shared) (ws : List Value), ws.length = as.length → BindsTo s fd ⟨[], ks.zip ws⟩ (ps.zip (permL perm ws)) := fun s ws c => by
    obtain ⟨oc, od, dV, kV, doc, pm, an, cdv, ct, osl, rfl, lk, hcd, hD, hKd⟩ := FD.ex
    rcases hD with ⟨_, rfl⟩ | ⟨z, _⟩
    · exact .of_eq (hbk kV doc pm an cdv ct ws c)
    · exact absurd rfl z
  refine PE.imp (t := fun σ H Q => toTAa B as σ H fun zs H2 => zs.length = as.length ∧ spF X.K ps.length φ (permL perm zs) H2 Q E0) ⟨fun pins s σ H Q I h => ?_⟩ fun σ H Q q => by
    rw [hK]
    exact callKF_te q
  refine wpAny_Call_Name_kw (ld_glob I hg hm ?_ hdb)
  have h' : toTAa B as σ H fun zs H2 => zs.length = as.length ∧ spF X.K ps.length φ (permL perm zs) H2 Q E0 := h
  refine PySem.W.callWith_KW0 (h₀ := X.base) I.ok.mod.kin FD.kp hall (thn (ha.run pos pins s σ H _ I h') fun ws s2 ⟨zs, H2, I2, rz, hl, q2⟩ => ⟨I2.kIn, ?_⟩) hpl
  rw [hks]
  exact runG (args := ⟨[], ks.zip ws⟩) F (hr.mono hj) hq (kb s2 ws (by rw [← rz.length]; exact hl)) I2 (Vals.perm rz perm) q2
end

/-! ### a, b, c = x, y, z -/
section
variable {B : Bx} {X : Cx}
theorem RVoks.after_set {s0 : Sx} {F H : Hp} {σ : L2.St} {Γ : Env} {i : Nat} {v : V} {r : RV} : ∀ {vs : List V} {rs : List RV}, RVoks B s0 ⟨F, H, σ, Γ⟩ vs rs → (∀ c, r = .nw c → ∀ p, v = .ref p → ∀ (j : Nat) c', rs[j]? = some (.nw c') → vs[j]? ≠ some (.ref p)) →
    RVoks B s0 ⟨F, H, σ.set i (some v), Γ.set i (some r.sv)⟩ vs rs
  | [], rs, h, _ => h
  | w :: vs, rs, h, hd => by
    obtain ⟨r1, rs1, rfl, h1, h2, h3⟩ := h
    refine ⟨r1, rs1, rfl, h1.after_set fun c p ec ep c' ec' ew => ?_, RVoks.after_set h2 fun c ec p ep j c' e1 e2 => hd c ec p ep (j + 1) c' (by simpa using e1) (by simpa using e2), h3⟩
    refine hd c ec p ep 0 c' ?_ ?_
    · rw [ec']
      rfl
    · rw [ew]
      rfl
def setsV : List Nat → List V → L2.St → L2.St
  | i :: is, v :: vs, σ => setsV is vs (σ.set i (some v))
  | _, _, σ => σ
def setsR : List Nat → List RV → Env → Env
  | i :: is, r :: rs, Γ => setsR is rs (Γ.set i (some r.sv))
  | _, _, Γ => Γ
theorem sets_rv {s0 : Sx} {F H : Hp} (k0 : ∀ p o, B.H0 p = some o → ∃ o', s0.H p = some o') : ∀ {is : List Nat} {vs : List V} {rs : List RV} {σ : L2.St} {Γ : Env}, Ok B ⟨F, H, σ, Γ⟩ → Step s0 ⟨F, H, σ, Γ⟩ → RVoks B s0 ⟨F, H, σ, Γ⟩ vs rs →
    Ok B ⟨F, H, setsV is vs σ, setsR is rs Γ⟩ ∧ Step s0 ⟨F, H, setsV is vs σ, setsR is rs Γ⟩
  | [], vs, rs, σ, Γ, k, st, h => by
    cases rs <;> cases vs <;> exact ⟨k, st⟩
  | i :: is, [], rs, σ, Γ, k, st, h => by
    have h' : rs = [] := h
    subst h'
    exact ⟨k, st⟩
  | i :: is, v :: vs, rs, σ, Γ, k, st, h => by
    obtain ⟨r, rs1, rfl, h1, h2, h3⟩ := h
    obtain ⟨k2, st2⟩ := set_rv (i := i) k k0 st h1
    exact sets_rv k0 (is := is) k2 st2 (h2.after_set h3)
def par3F (i j l : Nat) (f g h : EF) : SF := fun Γ => sof (evalRs [f, g, h] Γ) fun rs Γ' => .nx (setsR [i, j, l] rs Γ')
theorem evalRs_length : ∀ {fs : List EF} {Γ Γ' : Env} {rs : List RV}, evalRs fs Γ = .ok rs Γ' → rs.length = fs.length
  | [], _, _, _, e => by cases e; rfl
  | f :: fs, Γ, Γ', rs, e => by
    obtain ⟨r, Γ1, e1, w1⟩ := Res.of_bind (show (f Γ).bind _ = _ from e)
    obtain ⟨rs1, Γ2, e2, w2⟩ := Res.of_bind w1
    cases w2
    rw [List.length_cons, List.length_cons, evalRs_length e2]
theorem RVoks.len {s0 s : Sx} : ∀ {vs : List V} {rs : List RV}, RVoks B s0 s vs rs → rs.length = vs.length
  | [], rs, h => by
    have h' : rs = [] := h
    rw [h']
    rfl
  | v :: vs, rs, h => by
    obtain ⟨r, rs1, rfl, h1, h2, h3⟩ := h
    rw [List.length_cons, List.length_cons, RVoks.len h2]
theorem s_par3 (i j l : Nat) {x y z : Str} {a b c : Expr} {f g h : EF} {px py pz pt : Pos} {kt k2 pt2} {pos : Pos} (hN : X.N.Nodup) (ha : EE B X a f) (hb : EE B X b g) (hcc : EE B X c h) (hc : X.calm = true := by rfl) (hi : X.N[i]? = some x := by rfl) (hj : X.N[j]? = some y := by rfl) (hl : X.N[l]? = some z := by rfl)
    (hij : i ≠ j := by decide) (hil : i ≠ l := by decide) (hjl : j ≠ l := by decide)
    (hx : X.env.scope.names.lookup x = some .local := by rfl) (hy : X.env.scope.names.lookup y = some .local := by rfl) (hz : X.env.scope.names.lookup z = some .local := by rfl)
    (hw : swappedStores [.Tuple [.Name x px, .Name y py, .Name z pz] kt pt] (.Tuple [a, b, c] k2 pt2) X.env = pure (some [x, y, z]) := by rfl)
    (hs : swapsWithSole [.Tuple [.Name x px, .Name y py, .Name z pz] kt pt] (.Tuple [a, b, c] k2 pt2) pos.line X.env = pure false := by rfl) (h1 : starEach [a, b, c] X.env = (false, eval a X.env) :: starEach [b, c] X.env := by rfl) (h2 : starEach [b, c] X.env = (false, eval b X.env) :: starEach [c] X.env := by rfl)
    (h3 : starEach [c] X.env = (false, eval c X.env) :: starEach [] X.env := by rfl) : SS B X (.Assign [.Tuple [.Name x px, .Name y py, .Name z pz] kt pt] (.Tuple [a, b, c] k2 pt2) pos) (par3F i j l f g h) :=
  PS.imp (ps_par3 hc hN hi hj hl hij hil hjl hx hy hz (efs_cons ha (efs_cons hb (efs_cons hcc efs_nil h3) h2) h1) hw hs) fun D σ H ⟨F, Γ, k, q⟩ => by
    obtain ⟨rs, Γ1, e1, w1⟩ := sof_cases q
    refine rs_run (fs := [f, g, h]) k e1 fun vs F' H' k' st rv => ?_
    have ln := rv.len
    rw [evalRs_length e1] at ln
    obtain ⟨k2, st2⟩ := sets_rv (is := [i, j, l]) k.dom k' st rv
    match vs, ln with
    | [u, v, w], _ => exact ⟨u, v, w, rfl, w1 _ F' H' k2 st2⟩
end
end PD
end

section
set_option maxHeartbeats 4000000
/-! PD17: equal dicts, and what holds them; repr. -/
namespace PySem.SeqAt
open AutoSeq1 (wpAny_loadPart')
open MeetsSeq MeetsSeq2 MeetsSeq3 SeqRoads2
section
variable {prog : Program} {w : World} {A : Around} {E : Value → Shared → Prop} {s : Shared}
/-- two dicts, each entry of the first found in the second, the values equal -/
theorem pd_samePairs {nm : String} {a b : Addr} {oa ob : Obj} {es fs : Array DictEntry} {ep eq : Nat} {Q : Bool → Shared → Prop} (na : (a == sysModules) = false) (nb : (b == sysModules) = false)
    (ga : s.heap.get? a = some oa) (da : oa.data = .dict es ep) (gb : s.heap.get? b = some ob) (db : ob.data = .dict fs eq) (hsz : es.size = fs.size)
    (each : ∀ i (h : i < es.size), ∃ j, ∃ h' : j < fs.size, (∀ (E : Value → Shared → Prop) (Q : Option Nat → Shared → Prop), Q (some j) s → wpAny (model prog w) A (dictFind b es[i].key es[i].hash) Q E s) ∧ EqP prog w A s es[i].val fs[j].val true)
    (done : Q true s) : wpAny (model prog w) A (Builtin.Dict.samePairs nm a b) Q E s := by
  unfold Builtin.Dict.samePairs Builtin.Dict.showsAll
  rw [if_neg (by rw [na]; decide), if_neg (by rw [nb]; decide)]
  refine wpAny_bind (wpAny_pure (wpAny_bind (wpAny_pure (wpAny_bind (wpAny_dictEntries ga da ?_)))))
  dsimp only
  refine wpAny_bind (wpAny_dictEntries gb db ?_)
  rw [if_neg (by rw [hsz]; simp)]
  refine wpAny_bind (wpAny_dictEpoch ga da (wpAny_bind ?_))
  rw [Std.Legacy.Range.forIn_eq_forIn_range']
  simp only [Std.Legacy.Range.size, Nat.sub_zero, Nat.add_sub_cancel, Nat.div_one]
  refine wpAny_forIn_list _ (fun rest q s' => s' = s ∧ q = (none, ()) ∧ ∃ i, rest = List.range' i (es.size - i)) _ ?_ ?_ _ _ ⟨rfl, rfl, 0, by simp⟩
  · rintro x rest q s' ⟨rfl, rfl, i, hr⟩
    have hlt : i < es.size := by
      rcases Nat.lt_or_ge i es.size with h | h
      · exact h
      · rw [Nat.sub_eq_zero_of_le h] at hr
        cases hr
    have e1 : es.size - i = (es.size - (i + 1)) + 1 := by omega
    rw [e1, List.range'_succ] at hr
    injection hr with hx hrest
    subst hx
    obtain ⟨j, hj, find, same⟩ := each x hlt
    refine wpAny_bind (wpAny_dictEntries ga da ?_)
    rw [Array.getElem?_eq_getElem hlt]
    show wpAny _ _ (holding [es[x].key, es[x].val] _ >>= _) _ _ _
    refine wpAny_bind (wpAny_holding (wpAny_bind (find _ _ ?_)))
    refine wpAny_bind (wpAny_dictEntries gb db ?_)
    rw [Array.getElem?_eq_getElem hj]
    refine wpAny_holding (same _ _ ?_)
    show wpAny _ _ (if (!true) = true then _ else _) _ _ _
    rw [if_neg (by decide)]
    refine wpAny_bind (wpAny_dictEpoch ga da ?_)
    rw [if_neg (by simp)]
    exact wpAny_pure ⟨rfl, rfl, x + 1, hrest⟩
  · rintro q s' ⟨rfl, rfl, i, _⟩
    exact wpAny_pure done
theorem pd_dict_cmp {a b : Addr} {ne : Bool} {Q : Value → Shared → Prop} (ta : s.TypeIs (.ref a) "dict") (tb : s.TypeIs (.ref b) "dict") (hu : A.units < cLine)
    (same : ∀ (nm : String) (E : Value → Shared → Prop) (Q : Bool → Shared → Prop), Q true s → wpAny (model prog w) A.in1 (Builtin.Dict.samePairs nm a b) Q E s) (h : Q (.bool (!ne)) s) :
    wpAny (model prog w) A (richCompare (if ne = true then .NotEq else .Eq) (.ref a) (.ref b)) Q E s := by
  cases ne with
  | true =>
    refine wpAny_richCompare_same_room (op := .NotEq) ta tb PySem.F.slot_dict_ne (wpAny_call_entry PySem.F.slot_dict_ne ta PySem.F.entry_dict_ne ?_ (PySem.F.args_dict_ne_2 _ _)) hu
    show wpAny _ _ (Builtin.Dict.dictSlotArgs "__ne__" ⟨[.ref a, .ref b], []⟩ >>= _) _ _ s
    refine wpAny_bind ?_
    unfold Builtin.Dict.dictSlotArgs
    refine wpAny_bind (wpAny_notOrdered_dict ta ?_)
    show wpAny _ _ (pure (Value.ref a, Value.ref b)) _ _ s
    refine wpAny_pure (wpAny_bind (wpAny_isInstance (T := "dict") tb PySem.F.sub_dict_dict ?_))
    simp only [Bool.not_true, Bool.false_eq_true, if_false]
    refine wpAny_bind (wpAny_pure (wpAny_bind (wpAny_pure (wpAny_bind (same _ _ _ ?_)))))
    exact wpAny_pure ⟨_, rfl, (fun x => nomatch x), by simpa using h⟩
  | false =>
    refine wpAny_richCompare_same_room (op := .Eq) ta tb PySem.F.slot_dict_eq (wpAny_call_entry PySem.F.slot_dict_eq ta PySem.F.entry_dict_eq ?_ (PySem.F.args_dict_eq_2 _ _)) hu
    show wpAny _ _ (Builtin.Dict.dictSlotArgs "__eq__" ⟨[.ref a, .ref b], []⟩ >>= _) _ _ s
    refine wpAny_bind ?_
    unfold Builtin.Dict.dictSlotArgs
    refine wpAny_bind (wpAny_notOrdered_dict ta ?_)
    show wpAny _ _ (pure (Value.ref a, Value.ref b)) _ _ s
    refine wpAny_pure (wpAny_bind (wpAny_isInstance (T := "dict") tb PySem.F.sub_dict_dict ?_))
    simp only [Bool.not_true, Bool.false_eq_true, if_false]
    refine wpAny_bind (wpAny_pure (wpAny_bind (wpAny_pure (wpAny_bind (same _ _ _ ?_)))))
    exact wpAny_pure ⟨_, rfl, (fun x => nomatch x), by simpa using h⟩
theorem pd_tuple_ne {R : Result → Shared → Prop} (l b : Addr) (xs ys : Array Value) (n m : Nat) (dd ee : Option Addr) (sl sm : Array (Option Value)) (hsz : xs.size = ys.size) (hl : s.heap.get? l = some { cls := .type "tuple", dict := dd, data := .seq xs n, slots := sl })
    (hb : s.heap.get? b = some { cls := .type "tuple", dict := ee, data := .seq ys m, slots := sm }) (he : ∀ j (h1 : j < xs.size) (h2 : j < ys.size), EqP prog w A.in1 s xs[j] ys[j] true) (hR : R (.ok (.ret (.bool false))) s) :
    wpAny (model prog w) A.in1 (Builtin.«tuple.__ne__» ⟨[.ref l, .ref b], []⟩) (GQ.FinOf prog w A R) (fun e s' => R (.error e) s') s := by
  have f2 := AutoSeq1.sub_tuple_tuple
  have hZ : (xs.toList.zip ys.toList).length = xs.size := by simp [hsz]
  obtain ⟨hp, g, d, tk, os⟩ := s
  wp_walk using wpAny_loadPart' hl, wpAny_loadPart' hb, wpAny_forIn_list _ (fun rest b s' => b.1 = none ∧ s' = ⟨hp, g, d, tk, os⟩ ∧ ∃ i, rest = (xs.toList.zip ys.toList).drop i) _
  case turn =>
    rintro ⟨y, x⟩ rest b s' ⟨hb', rfl, i, hz⟩
    have hlt : i < (xs.toList.zip ys.toList).length := by
      rcases Nat.lt_or_ge i (xs.toList.zip ys.toList).length with q | q
      · exact q
      · rw [List.drop_of_length_le q] at hz
        cases hz
    have h1 : i < xs.size := by omega
    have h2 : i < ys.size := by omega
    rw [List.drop_eq_getElem_cons hlt] at hz
    injection hz with hyx hrest
    have hy : y = xs[i] := by
      have := congrArg Prod.fst hyx
      simpa using this
    have hx : x = ys[i] := by
      have := congrArg Prod.snd hyx
      simpa using this
    subst hy hx
    refine wpAny_bind (he i h1 h2 _ _ ?_)
    wp_walk
    exact ⟨rfl, rfl, i + 1, hrest⟩
  case fin =>
    rintro ⟨b1, b2⟩ s' ⟨hb', rfl, i, hz⟩
    simp only at hb'
    subst hb'
    wp_walk
    simpa [Builtin.Tuple.tupleCompareSizes, hsz, bne] using hR
  case h => exact ⟨rfl, rfl, 0, rfl⟩
theorem pd_tup_cmp {l b : Addr} {xs ys : Array Value} {ne : Bool} {Q : Value → Shared → Prop} (hl : s.heap.IsTuple l xs) (hb : s.heap.IsTuple b ys) (hsz : xs.size = ys.size) (hu : A.units < cLine)
    (he : ∀ j (h1 : j < xs.size) (h2 : j < ys.size), EqP prog w A.in1 s xs[j] ys[j] true) (h : Q (.bool (!ne)) s) : wpAny (model prog w) A (richCompare (if ne = true then .NotEq else .Eq) (.ref l) (.ref b)) Q E s := by
  cases ne with
  | true =>
    obtain ⟨⟨cls, dd, data, sl⟩, ho, hc, n, hd⟩ := id hl
    obtain ⟨⟨cls2, dd2, data2, sl2⟩, ho2, hc2, n2, hd2⟩ := id hb
    simp only at hc hd hc2 hd2
    subst hc hd hc2 hd2
    refine wpAny_richCompare_same_room (op := .NotEq) ⟨_, ho, rfl⟩ ⟨_, ho2, rfl⟩ F.slot_tuple_ne (GQ.call_here F.slot_tuple_ne ⟨_, ho, rfl⟩ F.entry_tuple_ne (F.args_tuple_ne_2 _ _) ?_) hu
    exact pd_tuple_ne (R := wants (fun v s' => v ≠ .notImplemented ∧ Q v s') E) l b xs ys n n2 dd dd2 sl sl2 hsz ho ho2 he ⟨(fun x => nomatch x), h⟩
  | false => exact GQ.rc_tupG hsz hu (fun _ s' => s' = s) hl hb (fun i h1 h2 s' q => by subst q; exact he i h1 h2 _ _ ⟨rfl, rfl⟩) (fun s' q => by subst q; exact h) rfl
end
end PySem.SeqAt
namespace PD
open PySem PySem.Spec PyProof.Rows L2
/-- equal, dicts by what they hold; n bounds the depth -/
def sameN : Nat → PyData → PyData → Bool
  | 0, _, _ => false
  | n + 1, a, b => (SeqAt.shaped a && SeqAt.shaped b && PyData.eqv a b) || match a, b with
    | .list xs, .list ys => xs.length == ys.length && (xs.zip ys).all fun p => sameN n p.1 p.2
    | .tuple xs, .tuple ys => xs.length == ys.length && (xs.zip ys).all fun p => sameN n p.1 p.2
    | .dict ks, .dict ls => ks.length == ls.length && ks.all fun p => match dget ls p.1 with
      | some v => sameN n p.2 v
      | none => false
    | _, _ => false

theorem dgetT_key {K : PySem.W.Frag} {F : Hp} (k : Key) : ∀ {kvs : List (PyData × PyData)} {ks : List (List Key × V)}, RepT K F kvs ks → dget kvs (keyD k) = none
  | [], _, _ => rfl
  | (kd, d) :: r, _, h => by
    obtain ⟨kk, v, r', rfl, rfl, _, h4⟩ := h
    unfold dget
    rw [List.find?_cons_of_neg (by cases k <;> (show ¬ PyData.eqv _ _ = true) <;> unfold keyD PyData.eqv <;> simp)]
    exact dgetT_key k h4
theorem dgetA_tup {K : PySem.W.Frag} {F : Hp} (xs : List PyData) : ∀ {kvs : List (PyData × PyData)} {ks : List (Key × V)}, RepA K F kvs ks → dget kvs (.tuple xs) = none
  | [], _, _ => rfl
  | (kd, d) :: r, _, h => by
    obtain ⟨kk, v, r', rfl, rfl, _, h4⟩ := h
    unfold dget
    rw [List.find?_cons_of_neg (by cases kk <;> (show ¬ PyData.eqv _ _ = true) <;> unfold keyD PyData.eqv <;> simp)]
    exact dgetA_tup xs h4
theorem nodup_at {α : Type} : ∀ {l : List α} {i j : Nat} {h1 : i < l.length} {h2 : j < l.length}, l.Nodup → l[i] = l[j] → i = j
  | x :: r, 0, 0, _, _, _, _ => rfl
  | x :: r, 0, j + 1, _, h2, n, e => by
    have h2' : j < r.length := Nat.lt_of_succ_lt_succ h2
    have e' : x = r[j] := e
    exact absurd (e' ▸ List.getElem_mem h2') (List.nodup_cons.mp n).1
  | x :: r, i + 1, 0, h1, _, n, e => by
    have h1' : i < r.length := Nat.lt_of_succ_lt_succ h1
    have e' : r[i] = x := e
    exact absurd (e' ▸ List.getElem_mem h1') (List.nodup_cons.mp n).1
  | x :: r, i + 1, j + 1, h1, h2, n, e => congrArg Nat.succ (nodup_at (h1 := Nat.lt_of_succ_lt_succ h1) (h2 := Nat.lt_of_succ_lt_succ h2) (List.nodup_cons.mp n).2 e)
/-- a key as it lies in a dict's entry -/
def KeyAt (P : Program) (w : World) (h : Heap) (kd : PyData) (key : Value) (hash : Int) : Prop :=
  (∃ (k : List Key) (q : Addr), kd = .tuple (k.map keyD) ∧ key = .ref q ∧ (tupleKind (mixKind P w)).is h k q ∧ hash = (tupleKind (mixKind P w)).hash k) ∨ ∃ k : Key, kd = keyD k ∧ (mixKind P w).is k key = true ∧ hash = (mixKind P w).hash k
section
variable {X : Cx} {pins : List (Addr × Obj)} {σ : L2.St} {H F : Hp} {s : Shared}
/-- a dict by its entries, whatever its keys -/
theorem raw_dict (I : Inv X pins σ H s) {a : Addr} {kvs : List (PyData × PyData)} (hd : (∃ ks, Rd H a (.dT ks) ∧ RepT X.K F kvs ks) ∨ (∃ ks, Rd H a (.dK ks) ∧ RepA X.K F kvs ks)) :
    ∃ (o : Obj) (es : Array DictEntry) (ep : Nat), (a == sysModules) = false ∧ s.heap.get? a = some o ∧ o.ExactDict ∧ o.data = .dict es ep ∧ es.size = kvs.length ∧
      (∀ i (h : i < es.size), ∃ kd d w, kvs[i]? = some (kd, d) ∧ RelV w es[i].val ∧ Rep X.K F d w ∧ KeyAt X.prog X.w s.heap kd es[i].key es[i].hash) ∧
      ∀ (A : Around) (kd d : PyData) (key : Value) (hash : Int), A.units < cLine → KeyAt X.prog X.w s.heap kd key hash → dget kvs kd = some d →
        ∃ j, ∃ h : j < es.size, ∃ w, (∀ (E : Value → Shared → Prop) (Q : Option Nat → Shared → Prop), Q (some j) s → wpAny (model X.prog X.w) A (dictFind a key hash) Q E s) ∧ RelV w es[j].val ∧ Rep X.K F d w := by
  rcases hd with ⟨ks, h1, h2⟩ | ⟨ks, h1, h2⟩
  · obtain ⟨z, hn, xs, rel, o, es, ep, g1, g2, g3, g4, g5, g6⟩ := dt_rd I.hok h1
    have sz : es.size = xs.length := size_of_entries g4
    have l1 := Paired.length rel
    have l2 := h2.length
    refine ⟨o, es, ep, hn, g1, g2, g3, by omega, fun i hi => ?_, fun A kd d key hash hu hk hg => ?_⟩
    · have hks : i < ks.length := by omega
      have e1 : ks[i]? = some ((ks[i]).1, (ks[i]).2) := List.getElem?_eq_getElem hks
      obtain ⟨q, e2, e3, e4, e5⟩ := L2.paired_get rel e1
      obtain ⟨d, e6, e7⟩ := h2.nth e1
      have e8 := entry_at g4 i
      rw [e2, Array.getElem?_eq_getElem hi] at e8
      have e9 : es[i] = entryOfKey (tupleKind (mixKind X.prog X.w)) q := Option.some.inj e8
      refine ⟨_, d, (ks[i]).2, e6, by rw [e9]; exact e5, e7, .inl ⟨(ks[i]).1, q.2.1, rfl, by rw [e9]; rfl, key_of I.hok (by rw [← e4]), by rw [e9]; show _ = _; rw [e3]; rfl⟩⟩
    · rcases hk with ⟨k, q, rfl, rfl, e1, rfl⟩ | ⟨k, rfl, _⟩
      · rcases h2.get k with ⟨_, z2⟩ | ⟨v, d', z1, z2, z3⟩
        · rw [z2] at hg
          cases hg
        · rw [z2] at hg
          cases hg
          obtain ⟨w', hw, rw'⟩ := RelO.some_of (v := v) (o := (atKey xs k).map (·.2)) (by rw [← z1]; exact rel.val k)
          obtain ⟨p, hp, hp2⟩ := Option.map_eq_some_iff.mp hw
          unfold atKey at hp
          obtain ⟨x, hx, rfl⟩ := Option.map_eq_some_iff.mp hp
          have hkx : x.1 = k := by
            have q0 := List.find?_some hx
            exact of_decide_eq_true q0
          obtain ⟨j, hj, ej⟩ := List.getElem_of_mem (List.mem_of_find?_eq_some hx)
          have hjs : j < es.size := by omega
          have ex : xs[j]? = some (k, x.2) := by
            rw [List.getElem?_eq_getElem hj, ej, ← hkx]
          have e8 := entry_at g4 j
          rw [ex, Array.getElem?_eq_getElem hjs] at e8
          have e9 : es[j] = entryOfKey (tupleKind (mixKind X.prog X.w)) (k, x.2) := Option.some.inj e8
          refine ⟨j, hjs, v, fun E Q hq => wpAny_dictFind_heap hu e1 g1 g3 g4 g5 g6 (fun no => absurd ex (no j x.2)) (fun j' p' e' => ?_), by rw [e9]; show RelV v x.2.2; rw [hp2]; exact rw', z3⟩
          have same : j' = j := by
            have m1 : (xs.map (·.1))[j']? = some k := by rw [List.getElem?_map, e']; rfl
            have m2 : (xs.map (·.1))[j]? = some k := by rw [List.getElem?_map, ex]; rfl
            obtain ⟨b1, b2⟩ := List.getElem?_eq_some_iff.mp m1
            obtain ⟨c1, c2⟩ := List.getElem?_eq_some_iff.mp m2
            exact nodup_at g6 (b2.trans c2.symm)
          rw [same]
          exact hq
      · rw [dgetT_key k h2] at hg
        cases hg
  · obtain ⟨z, hn, vs, rel, o, es, ep, g1, g2, g3, g4, g5, g6⟩ := dk_rd I.hok h1
    have sz : es.size = vs.length := by rw [← g5.length]; exact Array.length_toList.symm
    have l1 := rel.length
    have l2 := h2.length
    refine ⟨o, es, ep, hn, g1, g2, g3, by omega, fun i hi => ?_, fun A kd d key hash hu hk hg => ?_⟩
    · have hks : i < ks.length := by omega
      have e1 : ks[i]? = some ((ks[i]).1, (ks[i]).2) := List.getElem?_eq_getElem hks
      obtain ⟨q, e2, e3⟩ := L2.paired_get rel e1
      obtain ⟨d, e6, e7⟩ := h2.nth e1
      obtain ⟨hkey, hval⟩ := g5.get? (i := i) (e := es[i]) (k := q.1) (v := q.2) (by rw [Array.getElem?_toList]; exact Array.getElem?_eq_getElem hi) (by rw [e2])
      obtain ⟨k', hk', hh⟩ := g4 es[i] (Array.getElem_mem hi)
      have ekk : k' = q.1 := (mixKind X.prog X.w).inj _ _ _ hk' hkey
      refine ⟨_, d, (ks[i]).2, e6, by rw [hval]; exact e3.2, e7, .inr ⟨(ks[i]).1, rfl, ?_, ?_⟩⟩
      · have e4 : (ks[i]).1 = q.1 := e3.1
        rw [e4]
        exact hkey
      · have e4 : (ks[i]).1 = q.1 := e3.1
        rw [hh, ekk, e4]
    · rcases hk with ⟨k, q, rfl, _⟩ | ⟨k, rfl, e1, rfl⟩
      · rw [dgetA_tup _ h2] at hg
        cases hg
      · rcases h2.get k with ⟨_, z2⟩ | ⟨v, d', z1, z2, z3⟩
        · rw [z2] at hg
          cases hg
        · rw [z2] at hg
          cases hg
          obtain ⟨w', hw, rw'⟩ := RelO.some_of (v := v) (o := valueAt vs k) (by rw [← z1]; exact rel.val k)
          have hf := g5.find k
          rw [hw] at hf
          obtain ⟨en, he, hev⟩ := Option.map_eq_some_iff.mp hf
          have hfi : ∃ j, es.findIdx? (fun e => (mixKind X.prog X.w).is k e.key) = some j := by
            cases q : es.findIdx? fun e => (mixKind X.prog X.w).is k e.key with
            | some j => exact ⟨j, rfl⟩
            | none =>
              exfalso
              rw [Array.findIdx?_eq_none_iff] at q
              have h3 := List.find?_some he
              have h4 := List.mem_of_find?_eq_some he
              have := q en (by simpa using h4)
              rw [this] at h3
              cases h3
          obtain ⟨j, hj⟩ := hfi
          obtain ⟨hjlt, hjt, _⟩ := Array.findIdx?_eq_some_iff_getElem.mp hj
          have hval : valueAt vs k = some es[j].val := by
            have hjv : j < vs.length := by omega
            obtain ⟨kk, vv, hkv⟩ : ∃ kk vv, vs[j] = (kk, vv) := ⟨_, _, rfl⟩
            obtain ⟨q1, q2⟩ := g5.get? (i := j) (e := es[j]) (k := kk) (v := vv) (by rw [Array.getElem?_toList]; exact Array.getElem?_eq_getElem hjlt) (by rw [List.getElem?_eq_getElem hjv, hkv])
            have ek : kk = k := (mixKind X.prog X.w).inj _ _ _ q1 hjt
            subst ek
            unfold valueAt
            have mem : (kk, vv) ∈ vs := by rw [← hkv]; exact List.getElem_mem hjv
            have : (vs.find? fun kv => kv.1 = kk) = some (kk, vv) := by
              cases q : vs.find? fun kv => kv.1 = kk with
              | none =>
                rw [List.find?_eq_none] at q
                exact absurd (decide_eq_true (rfl : (kk, vv).1 = kk)) (q (kk, vv) mem)
              | some p =>
                have h5 := List.find?_some q
                have h6 := List.mem_of_find?_eq_some q
                have h7 : p.1 = kk := by simpa using h5
                obtain ⟨i1, b1, b2⟩ := List.getElem_of_mem h6
                have m1 : (vs.map (·.1))[i1]'(by simpa using b1) = (vs.map (·.1))[j]'(by simpa using hjv) := by
                  rw [List.getElem_map, List.getElem_map, b2, hkv, h7]
                have := nodup_at g6 m1
                subst this
                rw [← b2, hkv]
            rw [this, q2]
            rfl
          refine ⟨j, hjlt, v, fun E Q hq => wpAny_dictFind_of e1 g1 g3 g4 (by rw [hj]; exact hq), ?_, z3⟩
          rw [hw] at hval
          cases hval
          exact rw'
end

section
variable {X : Cx} {pins : List (Addr × Obj)} {σ : L2.St} {H : Hp} {s : Shared}
theorem all_zip {n : Nat} : ∀ {xs ys : List PyData} {i : Nat} {a b : PyData}, ((xs.zip ys).all fun p => sameN n p.1 p.2) = true → xs[i]? = some a → ys[i]? = some b → sameN n a b = true
  | x :: xs, y :: ys, 0, a, b, h, e1, e2 => by
    cases e1
    cases e2
    rw [List.zip_cons_cons, List.all_cons, Bool.and_eq_true] at h
    exact h.1
  | x :: xs, y :: ys, i + 1, a, b, h, e1, e2 => by
    rw [List.zip_cons_cons, List.all_cons, Bool.and_eq_true] at h
    exact all_zip (i := i) h.2 (by simpa using e1) (by simpa using e2)
  | [], _, i, a, b, h, e1, e2 => by simp at e1
  | _ :: _, [], i, a, b, h, e1, e2 => by simp at e2
theorem reps_at {K : PySem.W.Frag} {F : Hp} {ds : List PyData} {vs : List V} {us : List Value} (h : RepL K F ds vs) (r : Vals vs us) {j : Nat} (hj : j < us.length) : ∃ d v, ds[j]? = some d ∧ Rep K F d v ∧ RelV v us[j] := by
  have l1 := h.length
  have l2 := r.length
  have hd : j < ds.length := by omega
  obtain ⟨v, e1, e2⟩ := h.get (List.getElem?_eq_getElem hd)
  rcases Vals.get r j with ⟨z, _⟩ | ⟨v', u, z1, z2, z3⟩
  · rw [e1] at z
    cases z
  · rw [e1] at z1
    cases z1
    rw [List.getElem?_eq_getElem hj] at z2
    cases z2
    exact ⟨_, v, List.getElem?_eq_getElem hd, e2, z3⟩
/-- what == and != of two such references say -/
def CmpR (X : Cx) (A : Around) (s : Shared) (l m : Addr) : Prop := ∀ (ne : Bool) (E Q : Value → Shared → Prop), Q (.bool (!ne)) s → wpAny (model X.prog X.w) A (richCompare (if ne = true then .NotEq else .Eq) (.ref l) (.ref m)) Q E s
theorem same_run (I : Inv X pins σ H s) : ∀ (n : Nat) (A : Around) (a b : PyData) (x y : V) (u v : Value), A.units + n + 64 < cLine → sameN n a b = true → Rep X.K H a x → Rep X.K H b y → RelV x u → RelV y v →
    SeqAt.EqP X.prog X.w A s u v true
  | 0, A, a, b, x, y, u, v, hu, h, _, _, _, _ => by cases h
  | n + 1, A, a, b, x, y, u, v, hu, h, ra, rb, ru, rv => by
    unfold sameN at h
    rw [Bool.or_eq_true] at h
    rcases h with h | h
    · rw [Bool.and_eq_true, Bool.and_eq_true] at h
      obtain ⟨⟨s1, s2⟩, e⟩ := h
      obtain ⟨as, r1⟩ := rd_of_rep I ra ru (SeqAt.canLay_of_shaped s1)
      obtain ⟨bs, r2⟩ := rd_of_rep I rb rv (SeqAt.canLay_of_shaped s2)
      have q := (SeqAt.eqAt_reads a b A s u v as bs r1 r2 (SeqAt.canLay_of_shaped s1) (SeqAt.canLay_of_shaped s2) (SeqAt.room_of_shaped s1 (by omega))).eqP (prog := X.prog) (w := X.w)
      rw [e] at q
      exact q
    · have byRef : ∀ (l m : Addr), u = .ref l → v = .ref m → (∀ (E Q : Value → Shared → Prop), Q (.bool true) s → wpAny (model X.prog X.w) A (richCompare .Eq (.ref l) (.ref m)) Q E s) → SeqAt.EqP X.prog X.w A s u v true := fun l m e1 e2 go => by
        subst e1 e2
        by_cases hlm : l = m
        · subst hlm
          exact (SeqAt.EqAt.same (A := A) (s := s) (.ref l)).eqP
        · exact SeqAt.eqP_refs hlm go
      split at h
      · rename_i xs ys
        rw [Bool.and_eq_true] at h
        obtain ⟨hl, ha⟩ := h
        obtain ⟨l, vs, rfl, h1, h2⟩ := ra
        obtain ⟨m, ws, rfl, h3, h4⟩ := rb
        cases (show u = Value.ref l from ru)
        cases (show v = Value.ref m from rv)
        obtain ⟨is1, r1, p1, _⟩ := I.list h1.sq
        obtain ⟨is2, r2, p2, _⟩ := I.list h3.sq
        have len : is1.toArray.size = is2.toArray.size := by
          have hl' : xs.length = ys.length := by simpa using hl
          have a1 := r1.length
          have a2 := r2.length
          have a3 := h2.length
          have a4 := h4.length
          rw [List.size_toArray, List.size_toArray]
          omega
        refine byRef l m rfl rfl fun E Q q => SeqAt.rcP_lists (e := fun _ => true) p1.isList p2.isList len (show A.units < cLine by omega) (fun j j1 j2 => ?_) E Q (by rw [List.all_eq_true.mpr fun _ _ => rfl]; exact q)
        obtain ⟨d1, v1, e1, e2, e3⟩ := reps_at h2 r1 (j := j) (by simpa using j1)
        obtain ⟨d2, v2, f1, f2, f3⟩ := reps_at h4 r2 (j := j) (by simpa using j2)
        exact same_run I n A.in1 d1 d2 v1 v2 _ _ (by show A.units + 1 + n + 64 < cLine; omega) (all_zip ha e1 f1) e2 f2 e3 f3
      · rename_i xs ys
        rw [Bool.and_eq_true] at h
        obtain ⟨hl, ha⟩ := h
        obtain ⟨l, vs, rfl, h1, h2⟩ := ra
        obtain ⟨m, ws, rfl, h3, h4⟩ := rb
        cases (show u = Value.ref l from ru)
        cases (show v = Value.ref m from rv)
        obtain ⟨is1, r1, p1, _⟩ := I.tuple h1.sq
        obtain ⟨is2, r2, p2, _⟩ := I.tuple h3.sq
        have len : is1.toArray.size = is2.toArray.size := by
          have hl' : xs.length = ys.length := by simpa using hl
          have a1 := r1.length
          have a2 := r2.length
          have a3 := h2.length
          have a4 := h4.length
          rw [List.size_toArray, List.size_toArray]
          omega
        refine byRef l m rfl rfl fun E Q q => SeqAt.pd_tup_cmp (ne := false) p1 p2 len (show A.units < cLine by omega) (fun j j1 j2 => ?_) q
        obtain ⟨d1, v1, e1, e2, e3⟩ := reps_at h2 r1 (j := j) (by simpa using j1)
        obtain ⟨d2, v2, f1, f2, f3⟩ := reps_at h4 r2 (j := j) (by simpa using j2)
        exact same_run I n A.in1 d1 d2 v1 v2 _ _ (by show A.units + 1 + n + 64 < cLine; omega) (all_zip ha e1 f1) e2 f2 e3 f3
      · rename_i ks ls
        rw [Bool.and_eq_true] at h
        obtain ⟨hl, ha⟩ := h
        obtain ⟨l, rfl, h1⟩ := ra
        obtain ⟨m, rfl, h2⟩ := rb
        cases (show u = Value.ref l from ru)
        cases (show v = Value.ref m from rv)
        obtain ⟨o1, es, ep, n1, g1, x1, d1, z1, at1, _⟩ := raw_dict I h1
        obtain ⟨o2, fs, fp, n2, g2, x2, d2, z2, _, find2⟩ := raw_dict I h2
        have sz : es.size = fs.size := by
          have hl' : ks.length = ls.length := by simpa using hl
          omega
        refine byRef l m rfl rfl fun E Q q => SeqAt.pd_dict_cmp (ne := false) ⟨o1, g1, x1.1⟩ ⟨o2, g2, x2.1⟩ (show A.units < cLine by omega) (fun nm E' Q' q' => SeqAt.pd_samePairs n1 n2 g1 d1 g2 d2 sz (fun i hi => ?_) q') q
        obtain ⟨kd, d, w, e1, e2, e3, e4⟩ := at1 i hi
        have hin : (kd, d) ∈ ks := List.mem_of_getElem? e1
        have he := List.all_eq_true.mp ha _ hin
        simp only at he
        split at he
        · rename_i d' eg
          obtain ⟨j, hj, w', f1, f2, f3⟩ := find2 A.in1 kd d' _ _ (by show A.units + 1 < cLine; omega) e4 eg
          exact ⟨j, hj, f1, same_run I n A.in1 d d' w w' _ _ (by show A.units + 1 + n + 64 < cLine; omega) he e3 f3 e2 f2⟩
        · cases he
      · cases h
/-- at the top: both signs; no lists -/
theorem same_top (I : Inv X pins σ H s) (n : Nat) (ne : Bool) {a b : PyData} {x y : V} {u v : Value} (hu : X.A.units + (n + 1) + 64 < cLine) (h : sameN (n + 1) a b = true) (hl : ne = false ∨ (∀ xs, a ≠ .list xs)) (ra : Rep X.K H a x) (rb : Rep X.K H b y) (ru : RelV x u) (rv : RelV y v)
    (E Q : Value → Shared → Prop) (q : Q (.bool (!ne)) s) : wpAny (model X.prog X.w) X.A (compareOp (if ne = true then .NotEq else .Eq) u v) Q E s := by
  unfold sameN at h
  rw [Bool.or_eq_true] at h
  rcases h with h | h
  · rw [Bool.and_eq_true, Bool.and_eq_true] at h
    obtain ⟨⟨s1, s2⟩, e⟩ := h
    obtain ⟨as, r1⟩ := rd_of_rep I ra ru (SeqAt.canLay_of_shaped s1)
    obtain ⟨bs, r2⟩ := rd_of_rep I rb rv (SeqAt.canLay_of_shaped s2)
    cases ne with
    | true => exact SeqAt.compareNe_shaped r1 r2 s1 s2 (by omega) (by rw [e]; exact q)
    | false => exact SeqAt.compareEq_shaped r1 r2 s1 s2 (by omega) (by rw [e]; exact q)
  · split at h
    · rename_i xs ys
      rw [Bool.and_eq_true] at h
      obtain ⟨hlen, ha⟩ := h
      rcases hl with hl | hl
      · subst hl
        obtain ⟨l, vs, rfl, h1, h2⟩ := ra
        obtain ⟨m, ws, rfl, h3, h4⟩ := rb
        cases (show u = Value.ref l from ru)
        cases (show v = Value.ref m from rv)
        obtain ⟨is1, r1, p1, _⟩ := I.list h1.sq
        obtain ⟨is2, r2, p2, _⟩ := I.list h3.sq
        have len : is1.toArray.size = is2.toArray.size := by
          have hl' : xs.length = ys.length := by simpa using hlen
          have a1 := r1.length
          have a2 := r2.length
          have a3 := h2.length
          have a4 := h4.length
          rw [List.size_toArray, List.size_toArray]
          omega
        refine SeqAt.rcP_lists (e := fun _ => true) p1.isList p2.isList len (show X.A.units < cLine by omega) (fun j j1 j2 => ?_) E Q (by rw [List.all_eq_true.mpr fun _ _ => rfl]; exact q)
        obtain ⟨d1, v1, e1, e2, e3⟩ := reps_at h2 r1 (j := j) (by simpa using j1)
        obtain ⟨d2, v2, f1, f2, f3⟩ := reps_at h4 r2 (j := j) (by simpa using j2)
        exact same_run I n X.A.in1 d1 d2 v1 v2 _ _ (show X.A.units + 1 + n + 64 < cLine by omega) (all_zip ha e1 f1) e2 f2 e3 f3
      · exact absurd rfl (hl xs)
    · rename_i xs ys
      rw [Bool.and_eq_true] at h
      obtain ⟨hlen, ha⟩ := h
      obtain ⟨l, vs, rfl, h1, h2⟩ := ra
      obtain ⟨m, ws, rfl, h3, h4⟩ := rb
      cases (show u = Value.ref l from ru)
      cases (show v = Value.ref m from rv)
      obtain ⟨is1, r1, p1, _⟩ := I.tuple h1.sq
      obtain ⟨is2, r2, p2, _⟩ := I.tuple h3.sq
      have len : is1.toArray.size = is2.toArray.size := by
        have hl' : xs.length = ys.length := by simpa using hlen
        have a1 := r1.length
        have a2 := r2.length
        have a3 := h2.length
        have a4 := h4.length
        rw [List.size_toArray, List.size_toArray]
        omega
      have cmp : ∀ l m : Value, compareOp (if ne = true then .NotEq else .Eq) l m = richCompare (if ne = true then .NotEq else .Eq) l m := fun _ _ => by cases ne <;> rfl
      rw [cmp]
      refine SeqAt.pd_tup_cmp p1 p2 len (show X.A.units < cLine by omega) (fun j j1 j2 => ?_) q
      obtain ⟨d1, v1, e1, e2, e3⟩ := reps_at h2 r1 (j := j) (by simpa using j1)
      obtain ⟨d2, v2, f1, f2, f3⟩ := reps_at h4 r2 (j := j) (by simpa using j2)
      exact same_run I n X.A.in1 d1 d2 v1 v2 _ _ (show X.A.units + 1 + n + 64 < cLine by omega) (all_zip ha e1 f1) e2 f2 e3 f3
    · rename_i ks ls
      rw [Bool.and_eq_true] at h
      obtain ⟨hlen, ha⟩ := h
      obtain ⟨l, rfl, h1⟩ := ra
      obtain ⟨m, rfl, h2⟩ := rb
      cases (show u = Value.ref l from ru)
      cases (show v = Value.ref m from rv)
      obtain ⟨o1, es, ep, n1, g1, x1, d1, z1, at1, _⟩ := raw_dict I h1
      obtain ⟨o2, fs, fp, n2, g2, x2, d2, z2, _, find2⟩ := raw_dict I h2
      have sz : es.size = fs.size := by
        have hl' : ks.length = ls.length := by simpa using hlen
        omega
      have cmp : ∀ l m : Value, compareOp (if ne = true then .NotEq else .Eq) l m = richCompare (if ne = true then .NotEq else .Eq) l m := fun _ _ => by cases ne <;> rfl
      rw [cmp]
      refine SeqAt.pd_dict_cmp ⟨o1, g1, x1.1⟩ ⟨o2, g2, x2.1⟩ (show X.A.units < cLine by omega) (fun nm E' Q' q' => SeqAt.pd_samePairs n1 n2 g1 d1 g2 d2 sz (fun i hi => ?_) q') q
      obtain ⟨kd, d, w, e1, e2, e3, e4⟩ := at1 i hi
      have hin : (kd, d) ∈ ks := List.mem_of_getElem? e1
      have he := List.all_eq_true.mp ha _ hin
      simp only at he
      split at he
      · rename_i d' eg
        obtain ⟨j, hj, w', f1, f2, f3⟩ := find2 X.A.in1 kd d' _ _ (by show X.A.units + 1 < cLine; omega) e4 eg
        exact ⟨j, hj, f1, same_run I n X.A.in1 d d' w w' _ _ (show X.A.units + 1 + n + 64 < cLine by omega) he e3 f3 e2 f2⟩
      · cases he
    · cases h
end
end PD
end

section
set_option maxHeartbeats 4000000
/-! PD18: == and != of any data; repr. -/
namespace PD
open PySem PySem.Spec PyProof.Rows L2
def isLst : PyData → Bool
  | .list _ => true
  | _ => false
def opEqX : List PyData → Option RV
  | [a, b] => if SeqAt.shaped a = true ∧ SeqAt.shaped b = true then some (.fro (.bool (PyData.eqv a b))) else if sameN 8 a b = true then some (.fro (.bool true)) else none
  | _ => none
def opNeX : List PyData → Option RV
  | [a, b] => if SeqAt.shaped a = true ∧ SeqAt.shaped b = true then some (.fro (.bool (!PyData.eqv a b))) else if sameN 8 a b = true ∧ isLst a = false then some (.fro (.bool false)) else none
  | _ => none
section
variable {X : Cx}
theorem or_eqx (hu : X.A.units + 80 < cLine) : OpR X (compareOp .Eq) (rD2 X.K opEqX) := by
  intro pins s σ H x y v u Q I rx ry h
  obtain ⟨F, ds, rv, e, rb, eo, q⟩ := h
  unfold opEqX at eo
  split at eo
  · rename_i a b
    split at eo
    · rename_i hc
      exact or_eq (by omega) pins s σ H x y v u Q I rx ry ⟨F, [a, b], rv, e, rb, (if_pos hc).trans eo, q⟩
    · split at eo
      · rename_i hs
        cases eo
        obtain ⟨x', y', ee, h1, h2⟩ := rb.two
        cases ee
        exact same_top I 7 false (by omega) hs (.inl rfl) (h1.rep e) (h2.rep e) rx ry _ _ ⟨.bl true, H, I, rfl, q _ F H (Grow.refl e) (rvg_bl _)⟩
      · cases eo
  · cases eo
theorem or_nex (hu : X.A.units + 80 < cLine) : OpR X (compareOp .NotEq) (rD2 X.K opNeX) := by
  intro pins s σ H x y v u Q I rx ry h
  obtain ⟨F, ds, rv, e, rb, eo, q⟩ := h
  unfold opNeX at eo
  split at eo
  · rename_i a b
    split at eo
    · rename_i hc
      exact or_ne (by omega) pins s σ H x y v u Q I rx ry ⟨F, [a, b], rv, e, rb, (if_pos hc).trans eo, q⟩
    · split at eo
      · rename_i hs
        cases eo
        obtain ⟨x', y', ee, h1, h2⟩ := rb.two
        cases ee
        refine same_top I 7 true (by omega) hs.1 (.inr fun xs z => ?_) (h1.rep e) (h2.rep e) rx ry _ _ ⟨.bl false, H, I, rfl, q _ F H (Grow.refl e) (rvg_bl _)⟩
        have h3 := hs.2
        rw [z] at h3
        cases h3
      · cases eo
  · cases eo
theorem units80 {k : Nat} {A : Around} (r : Room k A) : A.units + 80 < cLine := by
  have := r.un
  omega

/-! ### repr -/
def isSeqD : PyData → Bool
  | .list _ => true
  | .tuple _ => true
  | _ => false
def opRepr : List PyData → Option RV
  | [d] => if isSeqD d && SeqAt.shaped d && d.showable && small24 d.shown.length then some (.fro (.str d.shown)) else none
  | _ => none
theorem cb_repr (hu : X.A.units + 80 < cLine) (hg : X.A.guards = some []) : CallR X (.builtin "repr") (rD X.K opRepr) := by
  intro pins s σ H vs us Q I r h
  obtain ⟨F, ds, rv, e, rb, eo, q⟩ := h
  unfold opRepr at eo
  split at eo
  · rename_i d
    split at eo
    · rename_i hc
      rw [Bool.and_eq_true, Bool.and_eq_true, Bool.and_eq_true] at hc
      obtain ⟨⟨⟨h1, h2⟩, h3⟩, h4⟩ := hc
      cases eo
      obtain ⟨x, rfl, rx⟩ := rb.one
      obtain ⟨u, rfl, ru⟩ := r.one
      have rp := rx.rep e
      have ref : ∃ a, u = .ref a := by
        cases d with
        | list xs =>
          obtain ⟨a, _, rfl, _⟩ := rp
          exact ⟨a, ru⟩
        | tuple xs =>
          obtain ⟨a, _, rfl, _⟩ := rp
          exact ⟨a, ru⟩
        | _ => cases h1
      obtain ⟨a, rfl⟩ := ref
      obtain ⟨as, rd⟩ := rd_of_rep I rp ru (SeqAt.canLay_of_shaped h2)
      have dep := SeqAt.depth_of_shaped h2
      refine PySem.repr_of_reads' rd h3 (PyData.noDict_hsm (PyData.hasDict_of_canLay d (SeqAt.canLay_of_shaped h2))) hg (by omega) (fun _ _ z => z) (fun h' t tk hk => ?_) (small24_ok h4)
      exact ⟨.str _, H, I.kept (t' := tk) hk, ⟨t, rfl⟩, q _ F H (Grow.refl e) (rvg_str _)⟩
    · cases eo
  · cases eo
end
end PD
end

section
set_option maxHeartbeats 4000000
/-! PD19: dict(pairs), list(d.items()), len(set(..)). -/
namespace PD
open PySem PySem.Spec PyProof.Rows L2

/-! ### dict(xs), xs a list of pairs whose keys are tuples -/
def putAll : Own → List PyData → Option Own
  | c, [] => some c
  | c, .tuple [k, v] :: r => (putO c k v).bind fun c' => putAll c' r
  | _, _ :: _ => none
def opDict : List PyData → Option RV
  | [.list ps] => if small24 ps.length = true then (putAll (.dct []) ps).map .nw else none
  | _ => none
section
variable {X : Cx} {pins : List (Addr × Obj)} {σ : L2.St} {H F : Hp} {s : Shared}
theorem isDct_of_put {d : List (PyData × PyData)} {c : Own} {k v : PyData} (h : putO (.dct d) k v = some c) : ∃ ks : List Key, k = .tuple (ks.map keyD) ∧ c = .dct (dput d k v) := by
  replace h : (if okKey (.dct d) k && small24 (d.length + 1) then some (Own.dct (dput d k v)) else none) = some c := h
  split at h
  · rename_i hk
    rw [Bool.and_eq_true] at hk
    cases h
    cases k with
    | tuple xs =>
      obtain ⟨ks, ek⟩ := Option.isSome_iff_exists.mp (show (keysOf xs).isSome = true from hk.1)
      exact ⟨ks, by rw [keysOf_some ek], rfl⟩
    | _ => exact absurd hk.1 (by unfold okKey; simp)
  · cases h
/-- the pairs, as they lie -/
theorem pairs_at (I : Inv X pins σ H s) (e : Ext F H) : ∀ {ds : List PyData} {ws : List V} {us : List Value} {d0 : List (PyData × PyData)} {c : Own}, RepL X.K F ds ws → Vals ws us → putAll (.dct d0) ds = some c →
    ∃ (Ts : List Addr) (prs : List (Value × Value)) (ps : List (List Key × Addr × Value)), us = Ts.map Value.ref ∧ prs.length = us.length ∧ ps.length = us.length ∧
      (∀ (j : Nat) k v, prs[j]? = some (k, v) → ∃ T, Ts[j]? = some T ∧ PySem.PairAt s.heap T k v ∧ ∃ kk b, ps[j]? = some (kk, b, v) ∧ k = .ref b) ∧ (∀ x ∈ ps, H x.2.1 = some (.tup (x.1.map kV))) ∧
      ∀ {k0 : List (List Key × V)} {x0 : List (List Key × Addr × Value)}, RepT X.K F d0 k0 → KT H k0 x0 → ∃ d' k', c = .dct d' ∧ RepT X.K F d' k' ∧ KT H k' (PySem.storedAllH x0 ps)
  | [], ws, us, d0, c, h, r, hp => by
    have h' : ws = [] := h
    subst h'
    cases r
    cases hp
    exact ⟨[], [], [], rfl, rfl, rfl, fun j k v e => by simp at e, fun x hx => by simp at hx, fun {k0 x0} a b => ⟨_, k0, rfl, a, b⟩⟩
  | d :: ds, ws, us, d0, c, h, r, hp => by
    obtain ⟨w, wr, rfl, h1, h2⟩ := h
    cases r with
    | @cons _ u _ ur r1 r2 =>
      have shape : ∃ k v, d = .tuple [k, v] := by
        unfold putAll at hp
        split at hp
        · rename_i e1
          cases e1
        · rename_i e1
          cases e1
          exact ⟨_, _, rfl⟩
        · cases hp
      obtain ⟨kd, vd, rfl⟩ := shape
      obtain ⟨c', e1, e2⟩ := Option.bind_eq_some_iff.mp (show (putO (.dct d0) kd vd).bind _ = _ from hp)
      obtain ⟨ks, rfl, rfl⟩ := isDct_of_put e1
      obtain ⟨T, vs, rfl, t1, t2⟩ := h1
      obtain ⟨kx, vs1, rfl, t3, t4⟩ := t2
      obtain ⟨vx, vs2, rfl, t5, t6⟩ := t4
      have t6' : vs2 = [] := t6
      subst t6'
      cases (show u = Value.ref T from r1)
      obtain ⟨its, rv, ht, _⟩ := I.tuple (e.seqT t1.sq)
      obtain ⟨ku, vu, rfl, rk, rvx⟩ := Vals.two rv
      obtain ⟨b, kvs, rfl, s1, s2⟩ := t3
      have ekv := repL_keysD s2
      subst ekv
      have hb : H b = some (.tup (ks.map kV)) := by
        rcases s1 with s1 | ⟨_, s1⟩
        · exact e.tup s1
        · rw [keysD_all] at s1
          cases s1
      cases (show ku = Value.ref b from rk)
      obtain ⟨Ts, prs, ps, rfl, l1, l2, g1, g2, g3⟩ := pairs_at I e h2 r2 e2
      refine ⟨T :: Ts, (.ref b, vu) :: prs, (ks, b, vu) :: ps, rfl, by simp [l1], by simp [l2], fun j k v hj => ?_, fun x hx => ?_, fun {k0 x0} a bb => ?_⟩
      · cases j with
        | zero =>
          cases hj
          exact ⟨T, rfl, .inl ht, ks, b, rfl, rfl⟩
        | succ j =>
          obtain ⟨T', z1, z2, z3⟩ := g1 j k v (by simpa using hj)
          exact ⟨T', by simpa using z1, z2, by simpa using z3⟩
      · rcases List.mem_cons.mp hx with rfl | hx
        · exact hb
        · exact g2 x hx
      · exact g3 (a.put ks t5) (bb.put ks hb rvx)
theorem ct_dict (hu : X.A.units + 80 < cLine) (hc : X.calm = true) : CallR X (.type "dict") (rD X.K opDict) := by
  intro pins s σ H vs us Q I r h
  obtain ⟨F, ds, rv, e, rb, eo, q⟩ := h
  unfold opDict at eo
  split at eo
  · rename_i ps
    split at eo
    · rename_i hz
      obtain ⟨c, ec, rfl⟩ := Option.map_eq_some_iff.mp eo
      obtain ⟨x, rfl, h1⟩ := rb.one
      obtain ⟨a, ws, rfl, s1, r1⟩ := h1.list e
      obtain ⟨u, rfl, ru⟩ := r.one
      cases (show u = Value.ref a from ru)
      obtain ⟨its, rvv, pl, _⟩ := I.list s1
      obtain ⟨Ts, prs, pss, rfl, l1, l2, g1, g2, g3⟩ := pairs_at I e r1 rvv ec
      obtain ⟨d', k', rfl, rt, kt⟩ := g3 (k0 := []) (x0 := []) rfl .nil
      have hl := r1.length
      have hv := rvv.length
      have lts : Ts.length = ps.length := by
        rw [List.length_map] at hv
        omega
      obtain ⟨o, n, ho, hcl, hdn, hdat⟩ := pl
      have ok : PySem.PlainSeq "list" s.heap a (Ts.map Value.ref).toArray ∧ PySem.PairItems s.heap (Ts.map Value.ref).toArray (fun j => Ts.getD j 0) prs := by
        refine ⟨⟨o, n, ho, hcl, hdn, hdat⟩, by simp [l1], fun j k v hj => ?_⟩
        obtain ⟨T, z1, z2, _⟩ := g1 j k v hj
        refine ⟨?_, ?_⟩
        · simp [z1]
        · show PySem.PairAt s.heap (Ts.getD j 0) k v
          rw [List.getD_eq_getElem?_getD, z1]
          exact z2
      have stay : ∀ x ∈ pss, (tupleKind (mixKind X.prog X.w)).is s.heap x.1 x.2.1 := fun x hx => key_of I.hok (g2 x hx)
      have n1 : prs.length = ps.length := by
        rw [l1, List.length_map]
        exact lts
      refine PySem.call_dict_pairsH (knd := tupleKind (mixKind X.prog X.w)) (ps := pss) (PySem.PairArg.list a _ _ prs) (I.ok.hd hc) (by show X.A.units + 1 + 1 < cLine; omega) ok
        ⟨by rw [l2, l1], fun i key v hr => ?_⟩ (fun h' hk x hx => ?_) (by rw [n1]; exact small24_ok hz) fun h' tk dd hk => ?_
      · obtain ⟨_, _, _, kk, b, z1, z2⟩ := g1 i key v hr
        exact ⟨kk, b, z1, z2⟩
      · have hx2 := g2 x hx
        have ob := I.hok _ _ hx2
        obtain ⟨_, its, r3, o3, e3, c3, n3, d3⟩ := (show ObjOk X.prog X.w H s.heap x.2.1 (.tup (x.1.map kV)) from ob)
        have lt : x.2.1 < s.heap.objs.size := Heap.lt_size e3
        exact ⟨o3, its.toArray, n3, hk _ _ (Nat.ne_of_lt lt) (by simp) e3, c3, d3, by simpa using items_are r3⟩
      · obtain ⟨od, es, ep, q1, q2, q3, q4, q5, q6⟩ := dd
        have hm : (s.heap.objs.size == sysModules) = false := beq_eq_false_iff_ne.mpr (Nat.ne_of_gt I.big)
        have hn := I.fresh
        have lenK : k'.length ≤ sizeLine := by
          have z1 := Paired.length kt
          have z2 := PySem.storedAllH_length pss []
          have z3 := small24_ok hz
          simp only [List.length_nil] at z2
          omega
        have kt' : KT (upd H s.heap.objs.size (.dT k')) k' (PySem.storedAllH [] pss) := KT.keeps kt fun c ys hc => by
          rw [upd_ne (ne_of_none hc hn)]
          exact hc
        exact ⟨.ref s.heap.objs.size, upd H s.heap.objs.size (.dT k'), I.laid (t' := tk) (fun b o z => hk b o (by simp) z) (Nat.le_refl _) ⟨lenK, hm, _, kt', od, es, ep, q1, q2, q3, q4, q6⟩, rfl,
          q _ F _ (Grow.new e (.dT k') hn) ⟨_, rfl, e.none hn, ⟨k', upd_same, rt⟩, hn⟩⟩
    · cases eo
  · cases eo
end

/-! ### list(d.items()) -/
section
variable {X : Cx} {pins : List (Addr × Obj)} {σ : L2.St} {H F : Hp} {s : Shared}
/-- the pairs of a dict that is read, as values -/
theorem raw_pairs (I : Inv X pins σ H s) (e : Ext F H) {a : Addr} {kvs : List (PyData × PyData)} (hd : (∃ ks, Rd H a (.dT ks) ∧ RepT X.K F kvs ks) ∨ (∃ ks, Rd H a (.dK ks) ∧ RepA X.K F kvs ks)) :
    ∃ (o : Obj) (es : Array DictEntry) (ep : Nat), (a == sysModules) = false ∧ s.heap.get? a = some o ∧ o.ExactDict ∧ o.data = .dict es ep ∧ es.size = kvs.length ∧ es.size ≤ sizeLine ∧
      ∀ i (h : i < es.size), ∃ kd d kx w, kvs[i]? = some (kd, d) ∧ RelV kx es[i].key ∧ Rep X.K (plus F H) kd kx ∧ RelV w es[i].val ∧ Rep X.K F d w := by
  rcases hd with ⟨ks, h1, h2⟩ | ⟨ks, h1, h2⟩
  · obtain ⟨z, hn, xs, rel, o, es, ep, g1, g2, g3, g4, g5, g6⟩ := dt_rd I.hok h1
    have sz : es.size = xs.length := size_of_entries g4
    have l1 := Paired.length rel
    have l2 := h2.length
    refine ⟨o, es, ep, hn, g1, g2, g3, by omega, by omega, fun i hi => ?_⟩
    have hks : i < ks.length := by omega
    have e1 : ks[i]? = some ((ks[i]).1, (ks[i]).2) := List.getElem?_eq_getElem hks
    obtain ⟨q, e2, e3, e4, e5⟩ := L2.paired_get rel e1
    obtain ⟨d, e6, e7⟩ := h2.nth e1
    have e8 := entry_at g4 i
    rw [e2, Array.getElem?_eq_getElem hi] at e8
    have e9 : es[i] = entryOfKey (tupleKind (mixKind X.prog X.w)) q := Option.some.inj e8
    exact ⟨_, d, .ref q.2.1, (ks[i]).2, e6, by rw [e9]; rfl, ⟨_, _, rfl, .inl (plus_tup e e4), repL_kV _⟩, by rw [e9]; exact e5, e7⟩
  · obtain ⟨z, hn, vs, rel, o, es, ep, g1, g2, g3, g4, g5, g6⟩ := dk_rd I.hok h1
    have sz : es.size = vs.length := by rw [← g5.length]; exact Array.length_toList.symm
    have l1 := rel.length
    have l2 := h2.length
    refine ⟨o, es, ep, hn, g1, g2, g3, by omega, by omega, fun i hi => ?_⟩
    have hks : i < ks.length := by omega
    have e1 : ks[i]? = some ((ks[i]).1, (ks[i]).2) := List.getElem?_eq_getElem hks
    obtain ⟨q, e2, e3⟩ := L2.paired_get rel e1
    obtain ⟨d, e6, e7⟩ := h2.nth e1
    obtain ⟨hkey, hval⟩ := g5.get? (i := i) (e := es[i]) (k := q.1) (v := q.2) (by rw [Array.getElem?_toList]; exact Array.getElem?_eq_getElem hi) (by rw [e2])
    have e4 : (ks[i]).1 = q.1 := e3.1
    refine ⟨_, d, kV (ks[i]).1, (ks[i]).2, e6, ?_, rep_kV _, by rw [hval]; exact e3.2, e7⟩
    rw [e4]
    exact relV_key hkey
def pairsD (kvs : List (PyData × PyData)) : List PyData := kvs.map fun p => .tuple [p.1, p.2]
/-- tuples just laid, taken into the walk's heap one by one -/
theorem take_pairs {h' : Heap} {tk : Nat} {es : Array DictEntry} {F0 : Hp} {kvs : List (PyData × PyData)} (I0 : Inv X pins σ H s) (hF0 : Ext F0 H)
    (at1 : ∀ i (h : i < es.size), ∃ kd d kx w, kvs[i]? = some (kd, d) ∧ RelV kx es[i].key ∧ Rep X.K F0 kd kx ∧ RelV w es[i].val ∧ Rep X.K F0 d w) :
    ∀ (as : List Addr) (i : Nat) (F1 H1 : Hp), Grow F0 H F1 H1 → Inv X pins σ H1 { s with heap := h', toks := tk } → as.Nodup → i + as.length = kvs.length →
      (∀ a ∈ as, s.heap.objs.size ≤ a ∧ H1 a = none) → (∀ (j : Nat) (a : Addr), as[j]? = some a → ∃ hj : i + j < es.size, h'.get? a = some { cls := .type "tuple", data := .seq #[es[i + j].key, es[i + j].val] }) →
      ∃ F2 H2, Grow F0 H F2 H2 ∧ Same F1 F2 ∧ Inv X pins σ H2 { s with heap := h', toks := tk } ∧ (∀ b, b ∉ as → H2 b = H1 b) ∧ RepL X.K F2 (pairsD (kvs.drop i)) (as.map V.ref)
  | [], i, F1, H1, g, I1, _, hl, _, _ => by
    refine ⟨F1, H1, g, Same.refl _, I1, fun _ _ => rfl, ?_⟩
    have : kvs.drop i = [] := List.drop_of_length_le (by simp only [List.length_nil] at hl; omega)
    rw [this]
    exact rfl
  | a :: as, i, F1, H1, g, I1, nd, hl, hn, hp => by
    rw [List.nodup_cons] at nd
    obtain ⟨hge, hnone⟩ := hn a List.mem_cons_self
    obtain ⟨hi, hob⟩ := hp 0 a rfl
    obtain ⟨kd, d, kx, w, e1, e2, e3, e4, e5⟩ := at1 i (by simpa using hi)
    have I2 : Inv X pins σ (upd H1 a (.tup [kx, w])) { s with heap := h', toks := tk } := I1.take (h' := h') (t' := tk) (fun b ob _ z => z) (I0.fpOk hge hnone)
      ⟨by rw [sizeLine_eq]; simp, [_, _], .cons e2 (.cons e4 .nil), _, hob, rfl, 0, rfl⟩
    have g2 := g.trans (Grow.newF g.ext (.tup [kx, w]) hnone)
    obtain ⟨F2, H2, g3, sm, I3, k3, r3⟩ := take_pairs I0 hF0 at1 as (i + 1) _ _ g2 I2 nd.2 (by rw [List.length_cons] at hl; omega) (fun c hc => by
      obtain ⟨c1, c2⟩ := hn c (List.mem_cons_of_mem _ hc)
      exact ⟨c1, by rw [upd_ne (fun z => nd.1 (by rw [← z]; exact hc))]; exact c2⟩) (fun j c hj => by
      obtain ⟨z1, z2⟩ := hp (j + 1) c (by simpa using hj)
      have ee : i + (j + 1) = i + 1 + j := by omega
      simp only [ee] at z1 z2
      exact ⟨z1, z2⟩)
    have hF1 : F1 a = none := g.ext.none hnone
    refine ⟨F2, H2, g3, (same_upd hF1).trans sm, I3, fun b hb => ?_, ?_⟩
    · rw [k3 b (fun z => hb (List.mem_cons_of_mem _ z)), upd_ne (fun z => hb (by rw [z]; exact List.mem_cons_self))]
    · have hlt : i < kvs.length := by rw [List.length_cons] at hl; omega
      have hd : kvs.drop i = (kd, d) :: kvs.drop (i + 1) := by
        rw [List.drop_eq_getElem_cons hlt]
        rw [List.getElem?_eq_getElem hlt] at e1
        rw [Option.some.inj e1]
      rw [hd]
      refine RepL.cons ⟨a, [kx, w], rfl, .inl (sm _ _ upd_same), RepL.cons (e3.same g3.same) (RepL.cons (e5.same g3.same) RepL.nil)⟩ r3

/-- d.items(), a view -/
def rItems (K : PySem.W.Frag) (F : Hp) (a : Addr) (kvs : List (PyData × PyData)) (H : Hp) : Prop := (∃ ks, Rd H a (.dT ks) ∧ RepT K F kvs ks) ∨ (∃ ks, Rd H a (.dK ks) ∧ RepA K F kvs ks)
def rListIt (K : PySem.W.Frag) : List V → Hp → VK → Prop := fun vs H Q => ∃ F p a kvs, vs = [.ref p] ∧ H p = some (L2.DX.itemsO p a) ∧ Ext F H ∧ F p = none ∧ rItems K F a kvs H ∧
  ∀ F' H' l, Grow F H F' H' → F' l = none → OwnOk K F' H' l (.lst (pairsD kvs)) → H l = none → Q (.ref l) H'
theorem cr_listIt (hc : X.calm = true) : CallR X (.type "list") (rListIt X.K) := by
  intro pins s σ H vs us Q I r h
  obtain ⟨F, p, a, kvs, rfl, hp, e, hFp, hd, q⟩ := h
  obtain ⟨u, rfl, ru⟩ := r.one
  cases (show u = Value.ref p from ru)
  obtain ⟨o, es, ep, n1, g1, g2, g3, z1, z2, at1⟩ := raw_pairs I e hd
  have view : s.heap.IsItemsView p a := (show ObjOk X.prog X.w H s.heap p (L2.DX.itemsO p a) from I.hok p _ hp).1
  refine PySem.W.dil_call (es := es) (ep := ep) (I.ok.hd hc) view ⟨o, g1, g2, g3⟩ z2 fun h' tk acc c as hk hl hlen hG hacc => ?_
  -- the new list's tuples, then the list
  have g0 := Grow.tups e
  have I1 : Inv X pins σ H { s with heap := h', toks := tk } := I.kept hk
  have nd : as.Nodup := List.Pairwise.imp (fun z => Nat.ne_of_lt z) hG.rise
  have gS : h'.get? s.heap.objs.size = some { cls := .type "list", data := .seq acc c } := hl
  have at2 : ∀ i (h : i < es.size), ∃ kd d kx w, kvs[i]? = some (kd, d) ∧ RelV kx es[i].key ∧ Rep X.K (plus F H) kd kx ∧ RelV w es[i].val ∧ Rep X.K (plus F H) d w := fun i hi => by
    obtain ⟨kd, d, kx, w, y1, y2, y3, y4, y5⟩ := at1 i hi
    exact ⟨kd, d, kx, w, y1, y2, y3, y4, y5.same g0.same⟩
  have low : ∀ b ∈ as, s.heap.objs.size ≤ b ∧ H b = none := fun b hb => ⟨Nat.le_of_lt (hG.above b hb), I.hok.fresh (Nat.le_of_lt (hG.above b hb))⟩
  obtain ⟨F2, H2, g4, sm, I2, k2, rl⟩ := take_pairs (F0 := plus F H) I g0.ext at2 as 0 (plus F H) H (Grow.refl g0.ext) I1 nd (by omega) low (fun j b hj => by
    obtain ⟨y1, y2⟩ := hG.pairs j b hj
    simp only [Nat.zero_add]
    exact ⟨y1, y2⟩)
  have hS2 : H2 s.heap.objs.size = none := by
    rw [k2 _ (fun z => Nat.lt_irrefl _ (hG.above _ z))]
    exact I.fresh
  have lz : (as.map V.ref).length ≤ sizeLine := by
    rw [List.length_map, hlen]
    exact z2
  have I3 : Inv X pins σ (upd H2 s.heap.objs.size (.lst (as.map V.ref))) { s with heap := h', toks := tk } := I2.take (h' := h') (t' := tk) (fun b ob _ z => z) (I.fpOk (Nat.le_refl _) hS2)
    ⟨lz, acc.toList, c, by rw [hacc]; exact vals_refs as, by rw [Array.toArray_toList]; exact gS⟩
  have g5 := (g0.trans g4).trans (Grow.new g4.ext (.lst (as.map V.ref)) hS2)
  refine ⟨.ref s.heap.objs.size, _, I3, rfl, q F2 _ _ g5 (g4.ext.none hS2) ⟨_, upd_same, ?_⟩ I.fresh⟩
  have rl' : RepL X.K F2 (pairsD (kvs.drop 0)) (as.map V.ref) := rl
  rw [List.drop_zero] at rl'
  exact rl'
/-- the view as a value -/
def tItems (K : PySem.W.Frag) (to : TE) : TE := fun σ H Q => to σ H fun x H1 => ∃ F a kvs, x = .ref a ∧ Ext F H1 ∧ rItems K F a kvs H1 ∧ ∀ p, H1 p = none → Q (.ref p) (upd H1 p (L2.DX.itemsO p a))
theorem pe_items {o : Expr} {to : TE} {apos cpos : Pos} (ho : PE X o to) (hbase : attributeBase o "items" X.env (eval o X.env) = eval o X.env := by rfl) (hline : (apos.endLine == cpos.line) = true := by rfl) : PE X (.Call (.Attribute o "items" apos) [] [] cpos) (tItems X.K to) := by
  refine ⟨fun pins s σ H Q I h => ?_⟩
  refine wpAny_Call_method0_late hbase hline (thn (ho.run pins s σ H _ I h) fun v s1 ⟨x, H1, I1, rx, F, a, kvs, ex, e, hd, q⟩ => ?_)
  subst ex
  cases (show v = Value.ref a from rx)
  obtain ⟨ob, es, ep, n1, g1, g2, g3, z1, z2, at1⟩ := raw_pairs I1 e hd
  refine ⟨"dict", _, PySem.F.plainAttrs_dict, PySem.F.slot_dict_items, PySem.F.type_dict_items, ⟨ob, g1, g2.1⟩, fun b hb => ?_, Calls.callWith_builtin rfl (PySem.evalArgs_none ?_)⟩
  · cases hb
    exact ⟨ob, g1, g2.2.1⟩
  · refine DT.callItems (es := es) (ep := ep) n1 ⟨ob, g1, g2, g3⟩ ?_
    exact ⟨.ref s1.heap.objs.size, _, I1.laid (t' := s1.toks) (fun b u z => Heap.get?_push_of_some _ z) (Nat.le_refl _) (L2.DX.itemsO_ok (Heap.get?_push_size _ rfl)), rfl, q _ I1.fresh⟩
end
section
variable {B : Bx} {X : Cx}
def listItF (a : ArgF) : EF := fun Γ => (evalArg a Γ).bind fun av Γ' => (ofOpt (av.get Γ') Γ').bind fun d Γ' => match d with
  | .dict kvs => .ok (.nw (.lst (pairsD kvs))) Γ'
  | _ => .bad
theorem ee_listItems {o : Expr} {a : ArgF} {p pos apos cpos : Pos} (hK : X.K = B.K) (ha : EA B X o a) (hg : Gl X "list") (hm : X.mg "list" = none) (hv : bootBuiltins "list" = some (.type "list")) (hc : X.calm = true := by rfl)
    (hbase : attributeBase o "items" X.env (eval o X.env) = eval o X.env := by rfl) (hline : (apos.endLine == cpos.line) = true := by rfl)
    (he : starEach [.Call (.Attribute o "items" apos) [] [] cpos] X.env = (false, eval (.Call (.Attribute o "items" apos) [] [] cpos) X.env) :: starEach [] X.env := by rfl) (hpl : (backTo pos (starEach [] X.env)).any (·.1) = false := by rfl) :
    EE B X (.Call (.Name "list" p) [.Call (.Attribute o "items" apos) [] [] cpos] [] pos) (listItF a) :=
  PE.imp (pe_callTy (cr_listIt hc) hg hm hv (pa_cons (pe_items ha hbase hline) pa_nil he) (he := he) (hpl := hpl)) fun σ H Q q => by
    obtain ⟨F, Γ, r, Γ', k, e, q⟩ := toTE_ok q
    obtain ⟨av, Γ1, e1, w1⟩ := Res.of_bind e
    obtain ⟨d, Γ2, e2', w2⟩ := Res.of_bind w1
    obtain ⟨e2, rfl⟩ := of_ofOpt e2'
    split at w2
    · rename_i kvs
      cases w2
      refine arg_run k e1 fun v F1 H1 k1 st1 rp => ?_
      obtain ⟨a, rfl, hd⟩ := (RepAV.get k1 rp e2).dict k1.ext
      rw [hK]
      refine ⟨F1, a, kvs, rfl, k1.ext, hd, fun p hp => ?_⟩
      have g := Grow.new k1.ext (L2.DX.itemsO p a) hp
      obtain ⟨k2, st2⟩ := k1.grow g
      have hpa : ∀ {b : Addr} {u : HO}, Rd H1 b u → Rd (upd H1 p (L2.DX.itemsO p a)) b u := fun {b u} z => by
        rcases z with z | ⟨o, z⟩
        · exact .inl (g.hh _ _ z)
        · exact .inr ⟨o, g.hh _ _ z⟩
      refine ⟨F1, p, a, kvs, rfl, upd_same, g.ext, k1.ext.none hp, ?_, fun F' H' l g2 h1 h2 h3 => ?_⟩
      · rcases hd with ⟨ks, z1, z2⟩ | ⟨ks, z1, z2⟩
        · exact .inl ⟨ks, hpa z1, z2⟩
        · exact .inr ⟨ks, hpa z1, z2⟩
      · obtain ⟨k3, st3⟩ := k2.grow g2
        exact q _ F' H' k3 ((st1.trans st2).trans st3) (RVg.ok (F' := F') (H' := H') k2 (st1.trans st2) ⟨l, rfl, h1, h2, h3⟩)
    · cases w2

/-! ### len(set(xs)) of ints -/
def lenSetF (a : ArgF) : EF := fun Γ => (evalArg a Γ).bind fun av Γ' => (ofOpt (av.get Γ') Γ').bind fun d Γ' => match d with
  | .list xs => match intsOf xs with
    | some ns => if decide (ns.length < 4000) = true then .ok (.fro (.int ((PyProof.Rows.firstMet (fun i => ns.getD i 0) ns.length).length : Nat))) Γ' else .bad
    | none => .bad
  | _ => .bad
end
end PD
end

section
set_option maxHeartbeats 4000000
/-! PD20: len(set(..)). -/
namespace PD
open PySem PySem.Spec PyProof.Rows L2
theorem ints_are {ns : List Int} : ∀ {us : List Value}, Vals (ns.map V.int) us → IntsAre us ns := by
  induction ns with
  | nil =>
    intro us h
    cases h
    exact .nil
  | cons n ns ih =>
    intro us h
    cases h with
    | cons r t =>
      obtain ⟨tk, rfl⟩ := r
      exact .cons n tk (ih t)
def countD (ns : List Int) : Nat := (PyProof.Rows.firstMet (fun i => ns.getD i 0) ns.length).length
section
variable {B : Bx} {X : Cx}
theorem cr_setI (hc : X.calm = true) : CallR X (.type "set") (fun vs H Q => ∃ l ns, vs = [.ref l] ∧ SqL X.K H l (ns.map V.int) ∧ ns.length < 4000 ∧ ∀ p S, H p = none → Q (.ref p) (upd H p (.set S (countD ns)))) := by
  intro pins s σ H vs us Q I r h
  obtain ⟨l, ns, rfl, hl, hz, q⟩ := h
  obtain ⟨u, rfl, ru⟩ := r.one
  cases (show u = Value.ref l from ru)
  obtain ⟨its, rv, pl, _⟩ := I.list hl
  have hi := ints_are rv
  have sz : its.toArray.size = ns.length := by
    rw [List.size_toArray]
    exact hi.length
  refine PySem.call_set_list (ns := ns) (I.ok.hd hc) pl.isList (by simpa using hi) (by rw [sz]; show ns.length + 1 < 4096; omega) fun h' tk so kept => ?_
  rw [sz] at so
  exact ⟨.ref s.heap.objs.size, _, I.laid (t' := tk) (o := .set (fun k' => (PyProof.Rows.firstMet (fun i => ns.getD i 0) ns.length).any (· == k')) (countD ns)) (fun b o z => kept b o (Heap.lt_size z) z) (Nat.le_refl _) so, rfl, q _ _ I.fresh⟩
theorem cr_lenSet : CallR X (.builtin "len") (fun vs H Q => ∃ p S n, vs = [.ref p] ∧ H p = some (.set S n) ∧ Q (.int (n : Nat)) H) := by
  intro pins s σ H vs us Q I r h
  obtain ⟨p, S, n, rfl, hp, q⟩ := h
  obtain ⟨u, rfl, ru⟩ := r.one
  cases (show u = Value.ref p from ru)
  obtain ⟨o, es, ep, t, h1, h2, h3, h4, h5, h6, h7, h8⟩ := (show s.heap.SetOf (intKind X.prog X.w) p S n from I.hok p _ hp)
  have hs : es.size < 4096 := h6
  refine call_len_set h1 h2 h3 h7 (by omega) ?_
  rw [h8]
  exact ⟨.int (n : Nat), H, I.tok _, ⟨_, rfl⟩, q⟩
def lenSetG (a : ArgF) : EF := fun Γ => (evalArg a Γ).bind fun av Γ' => (ofOpt (av.get Γ') Γ').bind fun d Γ' => match d with
  | .list xs => match intsOf xs with
    | some ns => if decide (ns.length < 4000) = true then .ok (.fro (.int (countD ns : Nat))) Γ' else .bad
    | none => .bad
  | _ => .bad
theorem ee_lenSet {e : Expr} {a : ArgF} {p1 p2 pos1 pos2 : Pos} (hK : X.K = B.K) (ha : EA B X e a) (hg : Gl X "len") (hm : X.mg "len" = none) (hv : bootBuiltins "len" = some (.builtin "len")) (hg2 : Gl X "set") (hm2 : X.mg "set" = none) (hv2 : bootBuiltins "set" = some (.type "set")) (hc : X.calm = true := by rfl)
    (h1 : starEach [e] X.env = (false, eval e X.env) :: starEach [] X.env := by rfl) (h2 : starEach [.Call (.Name "set" p2) [e] [] pos2] X.env = (false, eval (.Call (.Name "set" p2) [e] [] pos2) X.env) :: starEach [] X.env := by rfl)
    (hpl : (backTo pos2 (starEach [] X.env)).any (·.1) = false := by rfl) (hpl2 : (backTo pos1 (starEach [] X.env)).any (·.1) = false := by rfl) :
    EE B X (.Call (.Name "len" p1) [.Call (.Name "set" p2) [e] [] pos2] [] pos1) (lenSetG a) :=
  PE.imp (pe_callB cr_lenSet hg hm hv (pa_cons (pe_callTy (cr_setI hc) hg2 hm2 hv2 (pa_cons ha pa_nil h1) (he := h1) (hpl := hpl)) pa_nil h2) (he := h2) (hpl := hpl2)) fun σ H Q q => by
    obtain ⟨F, Γ, r, Γ', k, e, q⟩ := toTE_ok q
    obtain ⟨av, Γ1, e1, w1⟩ := Res.of_bind e
    obtain ⟨d, Γ2, e2', w2⟩ := Res.of_bind w1
    obtain ⟨e2, rfl⟩ := of_ofOpt e2'
    split at w2
    · rename_i xs
      split at w2
      · rename_i ns en
        split at w2
        · rename_i hz
          cases w2
          refine arg_run k e1 fun v F1 H1 k1 st1 rp => ?_
          obtain ⟨l, vs, rfl, s1, r1⟩ := (RepAV.get k1 rp e2).list k1.ext
          have ex := intsOf_some en
          subst ex
          have ev := repL_ints r1
          subst ev
          rw [hK]
          refine ⟨l, ns, rfl, s1, of_decide_eq_true hz, fun p S hp => ⟨p, S, _, rfl, upd_same, ?_⟩⟩
          obtain ⟨k2, st2⟩ := k1.grow (Grow.new k1.ext (.set S (countD ns)) hp)
          exact q _ F1 _ k2 (st1.trans st2) (rvg_int (H' := upd H1 p (.set S (countD ns))) (H := H1) _)
        · cases w2
      · cases w2
    · cases w2
end
end PD
end

section
set_option maxHeartbeats 4000000
/-! PD21: from a def's promise to the law. -/
namespace PD
open PySem PySem.Spec PyProof.Rows L2

/-- the law's def called on the script, nothing else tracked -/
theorem law_callG {P : Program} {w : World} {K : PySem.W.Frag} {mg mb : Str → Option Value} {k : Nat} {fa a : Addr} {fd : FuncData} {x : Str} {sp : Sp} {t : Shared} {vs : List Value} {ns : List Int}
    (inK : K.In t.heap) (globs : t.heap.Ns mainGlobals mg) (blts : t.heap.Ns builtinsNs mb) (bltOf : ∀ x : Str, x ≠ "__name__" → mb x = bootBuiltins x) (noLim : t.heap.NoLimit) (noGen : t.gens = #[])
    (atA : t.heap.get? a = some { cls := .type "list", data := .seq vs.toArray }) (isInts : IntsAre vs ns) (few : ns.length ≤ sizeLine) (room : Room k callerA)
    (F : ∀ base : Heap, K.In base → base.Ns mainGlobals mg → FnG P w K mg base k fa fd [x] sp) (binds : ∀ (s : Shared) (u : Value), BindsTo s fd ⟨[u], []⟩ [(x, u)])
    (asks : ∀ H : Hp, Only H → LstOk K H a (ns.map V.int) → sp [.ref a] H (fun v _ => v = .bl true) fun _ _ _ => False) :
    codeAny (model P w) callerA (.call (.ref fa) ⟨[.ref a], []⟩) (fun r s' => r = .ok (.ret (.bool true)) ∧ OldK t.heap s'.heap ∧ s'.os = t.os ∧ AllBare s'.gens) t := by
  have rel := vals_ints isInts
  have len := isInts.length
  -- what is tracked: the script alone, or nothing if it is the module's own
  have start : ∃ H : Hp, Only H ∧ LstOk K H a (ns.map V.int) ∧ HOk P w H t.heap ∧ (∀ b u, H b = some u → b = a) ∧ ∀ b u o, H b = some u → K.lookup b ≠ some o := by
    cases kA : K.lookup a with
    | some o =>
      have eo := inK a o kA
      rw [atA] at eo
      cases eo
      exact ⟨fun _ => none, fun _ => .inl rfl, .inr ⟨vs.toArray, _, kA, by rw [List.size_toArray, len]; exact few, by simpa using rel⟩, fun _ _ z => (by cases z), fun _ _ z => (by cases z), fun _ _ _ z => (by cases z)⟩
    | none =>
      have one : ∀ {b : Addr} {u : HO}, (if b = a then some (HO.frz { cls := .type "list", data := .seq vs.toArray } (.lst (ns.map V.int))) else none) = some u → b = a ∧ u = .frz { cls := .type "list", data := .seq vs.toArray } (.lst (ns.map V.int)) := fun {b u} z => by
        by_cases hb : b = a
        · rw [if_pos hb] at z
          exact ⟨hb, (Option.some.inj z).symm⟩
        · rw [if_neg hb] at z
          cases z
      refine ⟨fun b => if b = a then some (.frz { cls := .type "list", data := .seq vs.toArray } (.lst (ns.map V.int))) else none, fun b => ?_, .inl (.inr ⟨_, if_pos rfl⟩), fun b u z => ?_, fun b u z => (one z).1, fun b u o z e => ?_⟩
      · by_cases hb : b = a
        · exact .inr ⟨_, _, if_pos hb⟩
        · exact .inl (if_neg hb)
      · obtain ⟨rfl, rfl⟩ := one z
        exact ⟨atA, by rw [List.length_map]; exact few, vs, _, rel, atA⟩
      · rw [(one z).1, kA] at e
        cases e
  obtain ⟨H, only, sq, hok, onlyA, notK⟩ := start
  have hidden : ∀ {b : Addr} {o : Obj}, t.heap.get? b = some o → H b = none → (hidT t.heap H).get? b = some o := fun e n => hidT_get e n
  have dictFree : ∀ {b : Addr} {o : Obj} {es : Array DictEntry} {ep : Nat}, t.heap.get? b = some o → o.data = .dict es ep → H b = none := fun {b o es ep} e d => by
    cases q : H b with
    | none => rfl
    | some u =>
      have hb := onlyA b u q
      subst hb
      rw [atA] at e
      cases e
      cases d
  have ns_ : ∀ {b : Addr} {m : Str → Option Value}, t.heap.Ns b m → (hidT t.heap H).Ns b m := fun {b m} ⟨o, es, ep, e, d, r⟩ => ⟨o, es, ep, hidden e (dictFree e d), d, r⟩
  have inB : K.In (hidT t.heap H) := fun b o e => hidden (inK b o e) (by
    cases q : H b with
    | none => rfl
    | some u => exact absurd e (notK b u o q))
  have modB : Mod K mg (hidT t.heap H) := ⟨inB, ns_ globs, ⟨mb, ns_ blts, bltOf⟩, let ⟨mc, h1, h2⟩ := noLim; ⟨mc, ns_ h1, h2⟩⟩
  have e0 : Env0 P w K mg (hidT t.heap H) callerA [] t H := ⟨rfl, modB, fun b o e => of_hidT e, Nat.le_of_eq (hidT_size _ _), trivial, fun b hb => (by cases hb), hok, .of_eq noGen⟩
  refine codeAny_mono ((F _ inB (ns_ globs)).run callerA [] t H ⟨[.ref a], []⟩ [.ref a] [.ref a] _ _ room rfl e0 (binds t (.ref a)) (.cons rfl .nil) (asks H only sq)) fun r s' got => ?_
  cases r with
  | error e => exact got.elim
  | ok flow =>
    cases flow with
    | next => exact got.elim
    | brk => exact got.elim
    | cont => exact got.elim
    | ret u =>
      obtain ⟨v, H', os, bare, un, hok', ru, rfl⟩ := got
      cases (show u = Value.bool true from ru)
      refine ⟨rfl, OldK.of_keep fun b o e => ?_, os, bare⟩
      cases q : H b with
      | none => exact un.keep b o e q (by intro z; cases z) (by intro z; cases z)
      | some u =>
        rcases only b with z | ⟨ob, xs, z⟩
        · rw [q] at z
          cases z
        · obtain ⟨e1, _⟩ := hok b _ z
          obtain ⟨e2, _⟩ := hok' b _ (un.frzs b ob _ z)
          rw [e] at e1
          cases e1
          exact e2
/-- a law: F gives the written part, the function object, the promise over every base -/
theorem walk_ofG {l : PySem.W.OpenLaw} {n k : Nat} {q : Program} {loose : List Str} {XP : (Str → Option Value) → Heap → Prop} {YP : World → Heap → Prop} {d : DefRec} {x : Str} (hn : l.most = some n) (hn2 : n ≤ sizeLine) (hdf : d.params.defaults = []) (hr : Room k callerA)
    (F : ∀ (w : World) (mg : Str → Option Value) (fa : Addr) (h : Heap), YP w h → h.Ns mainGlobals mg → mg d.name = some (.ref fa) →
      ∃ (K : PySem.W.Frag) (fd : FuncData) (sp : Sp), K.In h ∧ (∀ (s : Shared) (u : Value), BindsTo s fd ⟨[u], []⟩ [(x, u)]) ∧
        (∀ (H : Hp) (a : Addr) (ns : List Int), ns.length ≤ n → Only H → LstOk K H a (ns.map V.int) → sp [.ref a] H (fun v _ => v = .bl true) fun _ _ _ => False) ∧ ∀ base : Heap, K.In base → base.Ns mainGlobals mg → FnG l.prog w K mg base k fa fd [x] sp) :
    PySem.W.WalkO q loose XP YP l.row.toRowW d [] (fun f vs => PySem.call f vs) := by
  refine Att.attach_call hn hdf fun w s₀ t mg mb fa o pm cd doc a vs ns G Y ho hd hcd hmg hobj hints hlen hg => ?_
  obtain ⟨K, fd, sp, inK, binds, asks, does⟩ := F w mg fa _ Y G.T.g hmg
  exact law_callG inK G.T.g G.T.b G.T.builtins G.T.nolimit hg hobj hints (Nat.le_trans hlen hn2) hr does binds fun H hO hS => asks H a ns hlen hO hS
theorem law_done {P : Program} {w : World} {K : PySem.W.Frag} {mg : Str → Option Value} {h : Heap} {fa : Addr} {st : Stmt} {k : Nat} {φ : Fn} {x y : Str} {n : Nat} (inK : K.In h) (hmg : mg x = some (.ref fa))
    (asks : ∀ (H : Hp) (a : Addr) (ns : List Int), ns.length ≤ n → Only H → LstOk K H a (ns.map V.int) → spF K 1 φ [.ref a] H (fun v _ => v = .bl true) fun _ _ _ => False)
    (D : ∀ base : Heap, Def P w K mg base x st [y] k φ)
    (bind : ∀ (kV doc pm : Value) (an : Option Addr) (cdv ct : Value) (us : List Value), us.length = [y].length → bindArgs (PySem.W.fnOf x x (defArgs st) (defBody st) (defScope st) .none kV doc pm an cdv ct) ⟨us, []⟩ = pure ([y].zip us)) :
    ∃ (K : PySem.W.Frag) (fd : FuncData) (sp : Sp), K.In h ∧ (∀ (s : Shared) (u : Value), BindsTo s fd ⟨[u], []⟩ [(y, u)]) ∧
      (∀ (H : Hp) (a : Addr) (ns : List Int), ns.length ≤ n → Only H → LstOk K H a (ns.map V.int) → sp [.ref a] H (fun v _ => v = .bl true) fun _ _ _ => False) ∧ ∀ base : Heap, K.In base → base.Ns mainGlobals mg → FnG P w K mg base k fa fd [y] sp := by
  have one : ∀ base : Heap, ∃ fd, FunD K x x (defArgs st) (defBody st) (defScope st) [] [] fa fd ∧ FnG P w K mg base k fa fd [y] (spF K 1 φ) := fun base => by
    obtain ⟨f, fd, hm, FD, _, G⟩ := (D base).ex
    rw [hmg] at hm
    cases hm
    exact ⟨fd, FD, G⟩
  obtain ⟨fd, FD, _⟩ := one h
  refine ⟨K, fd, spF K 1 φ, inK, fun s u => FunD.bindsA (ps := [y]) FD bind s [u] rfl, asks, fun base _ _ => ?_⟩
  obtain ⟨fd', FD', G⟩ := one base
  obtain ⟨_, _, _, _, _, _, _, _, _, _, _, l1, _⟩ := FD.ex
  obtain ⟨_, _, _, _, _, _, _, _, _, _, _, l2, _⟩ := FD'.ex
  rw [l1] at l2
  cases l2
  exact G
/-- the script as an argument -/
theorem script_spec {K : PySem.W.Frag} {H : Hp} {a : Addr} {ns : List Int} {φ : Fn} {outs : List SV} (ho : Only H) (hS : LstOk K H a (ns.map V.int)) (law : φ [.fro (.list (ns.map .int))] = .ok (.fro (.bool true)) outs) :
    spF K 1 φ [.ref a] H (fun v _ => v = .bl true) fun _ _ _ => False := by
  refine ⟨H, [.fro (.list (ns.map .int))], rfl, ⟨Ext.refl H, rfl, fun i d e => ?_, fun i t c e => ?_, fun i j t t' c c' p e => ?_, fun p o e => ⟨o, e⟩⟩, ?_⟩
  · cases i with
    | zero =>
      cases e
      refine ⟨.ref a, rfl, a, _, rfl, hS, ?_⟩
      clear law hS
      induction ns with
      | nil => exact rfl
      | cons n ns ih => exact RepL.cons (by unfold Rep; rfl) ih
    | succ i => simp at e
  · cases i with
    | zero => cases e
    | succ i => simp at e
  · cases i with
    | zero => cases e
    | succ i => simp at e
  · rw [law]
    exact fun v F' H' k st rv => by
      have rv' : Rep K F' (.bool true) v := rv
      unfold Rep at rv'
      exact rv'
end PD
end

section
set_option maxHeartbeats 1000000
/-! PE1: dict displays whose keys are tuples; sorted(xs) by data. -/
namespace PD
open PySem PySem.Spec PyProof.Rows L2

/-! ### {k: v, ..} -/
def tPuts (p : Addr) : List (V × V) → Hp → (Hp → Prop) → Prop
  | [], H, Q => Q H
  | (y, z) :: r, H, Q => ∃ H1, DPut H p y z H1 ∧ tPuts p r H1 Q
def tDispP (o : HO) (trs : List (TE × TE)) : TE := fun σ H Q => ∀ p, H p = none → tPairs trs σ (upd H p o) fun ps H2 => tPuts p ps H2 fun H3 => Q (.ref p) H3
section
variable {X : Cx}
theorem store_run (hu : X.A.units + 1 < cLine) {pins : List (Addr × Obj)} {σ : L2.St} {p : Addr} {E : Value → Shared → Prop} {Q : PUnit → Shared → Prop} : ∀ {ps : List (V × V)} {ws : List (Value × Value)} {H : Hp} {s : Shared} {Q' : Hp → Prop}, Inv X pins σ H s → VV ps ws → tPuts p ps H Q' →
    (∀ H' s', Inv X pins σ H' s' → Q' H' → Q PUnit.unit s') → wpAny (model X.prog X.w) X.A (storeAll p ws) Q E s
  | [], ws, H, s, Q', I, r, h, fin => by
    cases r
    show wpAny _ _ (forIn [] _ _) _ _ _
    rw [List.forIn_nil]
    exact wpAny_pure (fin H s I h)
  | (y, z) :: ps, ws, H, s, Q', I, r, h, fin => by
    cases r with
    | @cons _ b _ bs h1 h2 =>
      obtain ⟨bk, bv⟩ := b
      obtain ⟨H1, dp, h⟩ := h
      show wpAny _ _ (forIn (_ :: _) _ _) _ _ _
      rw [List.forIn_cons]
      exact wpAny_bind (wpAny_bind (put_dict hu I dp h1.1 h1.2 fun t' I' => wpAny_pure (store_run hu I' h2 h fin)))
theorem pe_dispP {o : HO} {pos : Pos} {keys : List (Option Expr)} {values : List Expr} {trs : List (TE × TE)} (ho0 : ∀ (G : Hp) (h : Heap), sysModules < h.objs.size → ObjOk X.prog X.w G (h.push { cls := .type "dict", data := .dict #[] }) h.objs.size o)
    (hu : X.A.units + 1 < cLine) (h : PPs X pos keys values trs) (hall : keys.all (·.isSome) = true) (hl : keys.length = values.length) (h0 : keys ≠ []) (h15 : keys.length ≤ 15) : PE X (.Dict keys values pos) (tDispP o trs) := by
  refine ⟨fun pins s σ H Q I q => ?_⟩
  have hn := I.hok.fresh (Nat.le_refl s.heap.objs.size)
  have I1 := I.laid (a := s.heap.objs.size) (o := o) (h' := s.heap.push { cls := .type "dict", data := .dict #[] }) (t' := s.toks) (fun _ _ q => Heap.get?_push_of_some _ q) (Nat.le_refl _) (ho0 _ s.heap I.big)
  refine wpAny_Dict_any hall hl h0 h15 (thn (h.run pins _ σ _ _ I1 (q _ hn)) fun ws s2 got => ?_)
  obtain ⟨ps, H2, I2, rel, q2⟩ := got
  exact store_run hu I2 rel q2 fun H' s' I' q' => ⟨.ref s.heap.objs.size, H', I', rfl, q'⟩
end
abbrev EPs := List (EF × EF)
def evalPs : EPs → Env → Res (List (PyData × PyData))
  | [], Γ => .ok [] Γ
  | (k, v) :: r, Γ => (k Γ).bind fun rk Γ1 => (v Γ1).bind fun rv Γ2 => (evalPs r Γ2).bind fun ds Γ3 => .ok ((rk.toD, rv.toD) :: ds) Γ3
def putPs : Own → List (PyData × PyData) → Option Own
  | c, [] => some c
  | c, (k, v) :: r => (putO c k v).bind fun c' => putPs c' r
def ddF (tup : Bool) (ps : EPs) : EF := fun Γ => (evalPs ps Γ).bind fun ds Γ' => (ofOpt (putPs (dNew tup) ds) Γ').bind fun c Γ' => .ok (.nw c) Γ'
section
variable {B : Bx} {X : Cx}
def RepPs (K : PySem.W.Frag) (F : Hp) : List (PyData × PyData) → List (V × V) → Prop
  | [], vs => vs = []
  | (k, d) :: ds, vs => ∃ y z r, vs = (y, z) :: r ∧ Rep K F k y ∧ Rep K F d z ∧ RepPs K F ds r
theorem RepPs.same {K : PySem.W.Frag} {F F' : Hp} (s : Same F F') : ∀ {ds : List (PyData × PyData)} {vs : List (V × V)}, RepPs K F ds vs → RepPs K F' ds vs
  | [], _, h => h
  | (k, d) :: ds, _, h => by
    obtain ⟨y, z, r, e, h1, h2, h3⟩ := h
    exact ⟨y, z, r, e, h1.same s, h2.same s, RepPs.same s h3⟩
theorem ps_run : ∀ {ps : EPs} {F H : Hp} {σ : L2.St} {Γ Γ' : Env} {ds : List (PyData × PyData)} {Q : List (V × V) → Hp → Prop}, Ok B ⟨F, H, σ, Γ⟩ → evalPs ps Γ = .ok ds Γ' →
    (∀ vs F' H', Ok B ⟨F', H', σ, Γ'⟩ → Step ⟨F, H, σ, Γ⟩ ⟨F', H', σ, Γ'⟩ → RepPs B.K F' ds vs → Q vs H') → tPairs (ps.map fun p => (toTE B p.1, toTE B p.2)) σ H Q
  | [], F, H, σ, Γ, Γ', ds, Q, k, e, h => by
    cases e
    exact h [] F H k (Step.refl _) rfl
  | (fk, fv) :: ps, F, H, σ, Γ, Γ', ds, Q, k, e, h => by
    obtain ⟨r, Γ1, e1, e2'⟩ := Res.of_bind (show (fk Γ).bind _ = _ from e)
    obtain ⟨r', Γ2, e2, e3'⟩ := Res.of_bind e2'
    obtain ⟨ds1, Γ3, e3, e4⟩ := Res.of_bind e3'
    cases e4
    refine toTE_fro k e1 fun v F1 H1 k1 st1 r1 => ?_
    refine toTE_fro k1 e2 fun v' F2 H2 k2 st2 r2 => ?_
    refine ps_run k2 e3 fun vs F3 H3 k3 st3 r3 => ?_
    exact h ((v, v') :: vs) F3 H3 k3 ((st1.trans st2).trans st3) ⟨v, v', vs, rfl, r1.same (st2.same.trans st3.same), r2.same st3.same, r3⟩
theorem puts_run {F0 H0 : Hp} {σ : L2.St} {Γ0 : Env} {p : Addr} (hD : H0 p = none) : ∀ {ds : List (PyData × PyData)} {vs : List (V × V)} {F H : Hp} {Γ : Env} {c c' : Own} {o : HO} {Q : Hp → Prop}, Ok B ⟨F, H, σ, Γ⟩ → Step ⟨F0, H0, σ, Γ0⟩ ⟨F, H, σ, Γ⟩ → Lone ⟨F, H, σ, Γ⟩ p o → OwnOk B.K F H p c → IsDct c → RepPs B.K F ds vs → putPs c ds = some c' →
    (∀ H' o', Ok B ⟨F, H', σ, Γ⟩ → Step ⟨F0, H0, σ, Γ0⟩ ⟨F, H', σ, Γ⟩ → Lone ⟨F, H', σ, Γ⟩ p o' → OwnOk B.K F H' p c' → Q H') → tPuts p vs H Q
  | [], vs, F, H, Γ, c, c', o, Q, k, st, l, oc, dc, r, e, q => by
    have h' : vs = [] := r
    subst h'
    cases e
    exact q H o k st l oc
  | (kd, d) :: ds, vs, F, H, Γ, c, c', o, Q, k, st, l, oc, dc, r, e, q => by
    obtain ⟨y, z, r', rfl, r1, r2, r3⟩ := r
    obtain ⟨c1, e1, e2⟩ := Option.bind_eq_some_iff.mp (show (putO c kd d).bind _ = _ from e)
    obtain ⟨o', dp, m', oc'⟩ := putO_dict k.ext oc dc e1 r1 r2
    obtain ⟨k1, st1, l1⟩ := l.put (o' := o') m' k st hD
    exact ⟨_, dp, puts_run hD k1 st1 l1 (oc' _ upd_same) (putO_isDct e1 dc) r3 e2 q⟩
theorem dd_te {tup : Bool} {ps : EPs} {σ : L2.St} {H : Hp} {Q : VK} (h : toTE B (ddF tup ps) σ H Q) : tDispP (o0 tup) (ps.map fun p => (toTE B p.1, toTE B p.2)) σ H Q := by
  obtain ⟨F, Γ, rv, Γ', k, e, q⟩ := toTE_ok h
  obtain ⟨ds, Γ1, e1, e2'⟩ := Res.of_bind e
  obtain ⟨c, Γ2, e2', e3⟩ := Res.of_bind e2'
  obtain ⟨e2, rfl⟩ := of_ofOpt e2'
  cases e3
  intro p hp
  have hm : Mut (some (o0 tup)) := by cases tup <;> trivial
  obtain ⟨k2, st2, l2⟩ := Lone.new (o := o0 tup) k hp hm
  have oc0 : OwnOk B.K F (upd H p (o0 tup)) p (dNew tup) := by
    cases tup
    · exact ⟨[], upd_same, rfl⟩
    · exact ⟨[], upd_same, rfl⟩
  have d0 : IsDct (dNew tup) := by
    cases tup
    · exact .inr ⟨_, rfl⟩
    · exact .inl ⟨_, rfl⟩
  refine ps_run k2 e1 fun vs F3 H3 k3 st3 r3 => ?_
  have l3 := l2.step st3 k3
  refine puts_run hp k3 (st2.trans st3) l3 (oc0.at st3.same (l3.at_.trans l2.at_.symm)) d0 r3 e2 fun H4 o' k4 st4 l4 oc4 => ?_
  exact q (.ref p) F3 H4 k4 st4 ⟨p, rfl, l4.nF, oc4, hp, l4.nO⟩
abbrev EPP (B : Bx) (X : Cx) (pos : Pos) (keys : List (Option Expr)) (values : List Expr) (ps : EPs) : Prop := PPs X pos keys values (ps.map fun p => (toTE B p.1, toTE B p.2))
theorem epp_nil {pos : Pos} : EPP B X pos [] [] [] := pps_nil
theorem epp_cons {pos : Pos} {k v : Expr} {ks : List (Option Expr)} {vs : List Expr} {fk fv : EF} {ps : EPs} (hk : EE B X k fk) (hv : EE B X v fv) (hr : EPP B X pos ks vs ps) : EPP B X pos (some k :: ks) (v :: vs) ((fk, fv) :: ps) := pps_cons hk hv hr
theorem ee_dd (tup : Bool) {pos : Pos} {keys : List (Option Expr)} {values : List Expr} {ps : EPs} (hu : X.A.units + 1 < cLine) (h : EPP B X pos keys values ps) (hall : keys.all (·.isSome) = true := by rfl) (hl : keys.length = values.length := by rfl) (h0 : keys ≠ [] := by simp) (h15 : keys.length ≤ 15 := by simp) :
    EE B X (.Dict keys values pos) (ddF tup ps) := PE.imp (pe_dispP (o0_ok tup) hu h hall hl h0 h15) fun σ H Q q => dd_te q
end

/-! ### sorted(xs) -/
def alikeD (ds : List PyData) : Bool := ds.all fun d => ds.all fun d' => PySem.W.alike d d'
def isTupC : PyData → Bool
  | .tuple (_ :: _) => true
  | _ => false
def isOthC : PyData → Bool
  | .none => false
  | .tuple _ => false
  | _ => true
def okSort (ds : List PyData) : Bool := small24 ds.length && (ds.all fun d => decide (d.depth ≤ 40)) && alikeD ds && (ds.all isTupC || ds.all isOthC)
def sortD (ds : List PyData) : List PyData := ds.mergeSort (PySem.W.dataLe false id)
def opSorted : List PyData → Option RV
  | [.list ds] => if okSort ds = true then some (.nw (.lst (sortD ds))) else none
  | _ => none
mutual
theorem alike_noDict : ∀ d : PyData, PySem.W.alike d d = true → d.hasDict = false
  | .none, _ => rfl
  | .bool _, _ => rfl
  | .int _, _ => rfl
  | .str _, _ => rfl
  | .list xs, h => by
    unfold PySem.W.alike at h
    unfold PyData.hasDict
    exact alikeAll_noDict xs h
  | .tuple xs, h => by
    unfold PySem.W.alike at h
    unfold PyData.hasDict
    exact alikeAll_noDict xs h
  | .dict _, h => by
    unfold PySem.W.alike at h
    cases h
theorem alikeAll_noDict : ∀ xs : List PyData, PySem.W.alikeAll xs xs = true → PyData.hasDictAll xs = false
  | [], _ => rfl
  | x :: xs, h => by
    obtain ⟨h1, h2⟩ := PySem.W.alike_all_cons h
    unfold PyData.hasDictAll
    rw [alike_noDict x h1, alikeAll_noDict xs h2]
    rfl
end
section
variable {X : Cx}
def RelD (K : PySem.W.Frag) (F : Hp) (u : Value) (d : PyData) : Prop := ∃ v, RelV v u ∧ Rep K F d v
theorem each_rep {K : PySem.W.Frag} {F : Hp} : ∀ {ds : List PyData} {vs : List V} {us : List Value}, RepL K F ds vs → Vals vs us → PySem.W.EachIs (RelD K F) us ds
  | [], vs, us, h, r => by
    have h' : vs = [] := h
    subst h'
    cases r
    exact .nil
  | d :: ds, vs, us, h, r => by
    obtain ⟨v, vr, rfl, h1, h2⟩ := h
    cases r with
    | cons r1 r2 => exact .cons ⟨v, r1, h1⟩ (each_rep h2 r2)
theorem rep_each {K : PySem.W.Frag} {F : Hp} : ∀ {us : List Value} {ds : List PyData}, PySem.W.EachIs (RelD K F) us ds → ∃ vs, RepL K F ds vs ∧ Vals vs us
  | _, _, .nil => ⟨[], rfl, .nil⟩
  | _, _, .cons ⟨v, r, h⟩ t => by
    obtain ⟨vs, h1, h2⟩ := rep_each t
    exact ⟨v :: vs, ⟨v, vs, rfl, h, h1⟩, .cons r h2⟩
theorem all_of {ds : List PyData} {P : PyData → Bool} (h : ds.all P = true) {d : PyData} (hd : d ∈ ds) : P d = true := List.all_eq_true.mp h d hd
theorem cb_sorted (hu : X.A.units + 80 < cLine) : CallR X (.builtin "sorted") (rD X.K opSorted) := by
  intro pins s σ H vs us Q I r h
  obtain ⟨F, ds, rv, e, rb, eo, q⟩ := h
  unfold opSorted at eo
  split at eo
  · rename_i ds
    split at eo
    · rename_i hz
      cases eo
      unfold okSort at hz
      simp only [Bool.and_eq_true, Bool.or_eq_true] at hz
      obtain ⟨⟨⟨hz, hd⟩, ha⟩, hs⟩ := hz
      obtain ⟨x, rfl, h1⟩ := rb.one
      obtain ⟨a, ws, rfl, s1, r1⟩ := h1.list e
      obtain ⟨u, rfl, ru⟩ := r.one
      cases (show u = Value.ref a from ru)
      obtain ⟨its, rvv, hl, hzz⟩ := I.list s1
      have er := each_rep r1 rvv
      have hal : PySem.W.AllAlike (ds.map id) := by
        rw [List.map_id]
        intro d hd d' hd'
        exact all_of (all_of ha hd) hd'
      have hk : PySem.W.Sortable (ds.map id) := by
        rw [List.map_id]
        rcases hs with hs | hs
        · refine .inl fun d hd => ?_
          have := all_of hs hd
          unfold isTupC at this
          split at this
          · exact ⟨_, _, rfl⟩
          · cases this
        · refine .inr fun d hd => ?_
          have := all_of hs hd
          unfold isOthC at this
          split at this
          · cases this
          · cases this
          · rename_i n1 n2
            exact ⟨n1, n2⟩
      have rd : PySem.W.EachIs (fun v b => ∃ as, Reads s.heap v (id b) as) its ds := (PySem.W.each_mem er).mono fun u d ⟨⟨v, r, h⟩, hm⟩ =>
        Dp.reads I d v u (Rep.dp d v (alike_noDict d (all_of (all_of ha hm) hm)) (Rep.ext e d v h)) r
      refine PySem.W.sorted_data (enc := id) (R := RelD X.K F) hl.isList er rd hal hk (small24_ok hz) (fun d hm => ?_) fun out h1 h2 => ?_
      · have := of_decide_eq_true (all_of hd hm)
        show X.A.units + 2 + d.depth < cLine
        omega
      · obtain ⟨ws', q1, q2⟩ := rep_each h2
        obtain ⟨ep, he'⟩ := PyProof.Rows.sortedAll_at s.heap its out.toArray
        have hlen : ws'.length ≤ sizeLine := by
          rw [q2.length, h1]
          exact small24_ok hz
        have hn := I.hok.fresh (Nat.le_succ s.heap.objs.size)
        exact ⟨.ref _, upd H (s.heap.objs.size + 1) (.lst ws'), I.laid (t' := s.toks) (fun _ _ => PyProof.Rows.sortedAll_old) (Nat.le_succ _) ⟨hlen, out, ep, q2, he'⟩, rfl,
          q _ F _ (Grow.new e (.lst ws') hn) ⟨_, rfl, e.none hn, ⟨ws', upd_same, q1⟩, hn⟩⟩
    · cases eo
  · cases eo
end
end PD
end

section
set_option maxHeartbeats 1000000
/-! PE2: a call that only reads some containers of one's own. -/
namespace PD
open PySem PySem.Spec PyProof.Rows L2

/-! ### data without lists and dicts -/
mutual
def noMut : PyData → Bool
  | .none => true
  | .bool _ => true
  | .int _ => true
  | .str _ => true
  | .list _ => false
  | .tuple xs => noMutAll xs
  | .dict _ => false
def noMutAll : List PyData → Bool
  | [] => true
  | x :: xs => noMut x && noMutAll xs
end
def noMutV : List (PyData × PyData) → Bool
  | [] => true
  | p :: r => noMut p.2 && noMutV r
def flatC : Own → Bool
  | .lst ds => noMutAll ds
  | .dct kvs => noMutV kvs
  | .dck kvs => noMutV kvs
def flatR : RV → Bool
  | .fro d => noMut d
  | .nw c => flatC c
section
variable {K : PySem.W.Frag} {F G : Hp}
def Less (F G : Hp) : Prop := ∀ b o, F b = some o → ¬ Mut (some o) → G b = some o
theorem Less.rd (l : Less F G) {a : Addr} {u : HO} (hu : ¬ Mut (some u)) (r : Rd F a u) : Rd G a u := by
  rcases r with r | ⟨o, r⟩
  · exact .inl (l _ _ r hu)
  · exact .inr ⟨o, l _ _ r fun z => z⟩
mutual
theorem Rep.less (l : Less F G) : ∀ (d : PyData) (v : V), noMut d = true → Rep K F d v → Rep K G d v
  | .none, _, _, h => h
  | .bool _, _, _, h => h
  | .int _, _, _, h => h
  | .str _, _, _, h => h
  | .list _, _, n, _ => by cases n
  | .dict _, _, n, _ => by cases n
  | .tuple xs, v, n, h => by
    obtain ⟨a, vs, h1, h2, h3⟩ := h
    refine ⟨a, vs, h1, ?_, RepL.less l xs vs n h3⟩
    rcases h2 with h2 | ⟨h2, h4⟩
    · exact .inl (l _ _ h2 fun z => z)
    · refine .inr ⟨?_, h4⟩
      rcases h2 with h2 | h2
      · exact .inl (l.rd (fun z => z) h2)
      · exact .inr h2
theorem RepL.less (l : Less F G) : ∀ (ds : List PyData) (vs : List V), noMutAll ds = true → RepL K F ds vs → RepL K G ds vs
  | [], _, _, h => h
  | d :: ds, vs, n, h => by
    obtain ⟨v, r, h1, h2, h3⟩ := h
    have n' : noMut d = true ∧ noMutAll ds = true := Bool.and_eq_true_iff.mp n
    exact ⟨v, r, h1, Rep.less l d v n'.1 h2, RepL.less l ds r n'.2 h3⟩
end
theorem RepT.less (l : Less F G) : ∀ (ds : List (PyData × PyData)) (vs : List (List Key × V)), noMutV ds = true → RepT K F ds vs → RepT K G ds vs
  | [], _, _, h => h
  | (k, d) :: ds, vs, n, h => by
    obtain ⟨kk, v, r, h1, h2, h3, h4⟩ := h
    have n' : noMut d = true ∧ noMutV ds = true := Bool.and_eq_true_iff.mp n
    exact ⟨kk, v, r, h1, h2, Rep.less l d v n'.1 h3, RepT.less l ds r n'.2 h4⟩
theorem RepA.less (l : Less F G) : ∀ (ds : List (PyData × PyData)) (vs : List (Key × V)), noMutV ds = true → RepA K F ds vs → RepA K G ds vs
  | [], _, _, h => h
  | (k, d) :: ds, vs, n, h => by
    obtain ⟨kk, v, r, h1, h2, h3, h4⟩ := h
    have n' : noMut d = true ∧ noMutV ds = true := Bool.and_eq_true_iff.mp n
    exact ⟨kk, v, r, h1, h2, Rep.less l d v n'.1 h3, RepA.less l ds r n'.2 h4⟩
theorem OwnOk.less {H : Hp} (l : Less F G) {p : Addr} : ∀ {c : Own}, flatC c = true → OwnOk K F H p c → OwnOk K G H p c
  | .lst ds, n, h => by
    obtain ⟨vs, h1, h2⟩ := h
    exact ⟨vs, h1, RepL.less l ds vs n h2⟩
  | .dct ds, n, h => by
    obtain ⟨vs, h1, h2⟩ := h
    exact ⟨vs, h1, RepT.less l ds vs n h2⟩
  | .dck ds, n, h => by
    obtain ⟨vs, h1, h2⟩ := h
    exact ⟨vs, h1, RepA.less l ds vs n h2⟩
end

/-! ### slots lent to be read alone -/
def frz1 : Option (Option SV) → Option SV
  | some (some (.own _ c)) => some (.fro c.toD)
  | some x => x
  | none => none
def lendE (rs : List Nat) (Γ : Env) : Env := Γ.mapIdx fun i x => if i ∈ rs then frz1 (some x) else x
def backR (rs : List Nat) (Γ0 Γ : Env) : Env := Γ.mapIdx fun i x => if i ∈ rs then (match Γ0[i]? with
  | some (some (.own t c)) => some (.own t c)
  | _ => x) else x
theorem lendE_length (rs : List Nat) (Γ : Env) : (lendE rs Γ).length = Γ.length := by
  unfold lendE
  rw [List.length_mapIdx]
theorem backR_length (rs : List Nat) (Γ0 Γ : Env) : (backR rs Γ0 Γ).length = Γ.length := by
  unfold backR
  rw [List.length_mapIdx]
theorem lendE_get {rs : List Nat} {Γ : Env} {i : Nat} {sv : SV} (h : (lendE rs Γ)[i]? = some (some sv)) :
    (Γ[i]? = some (some sv) ∧ (i ∈ rs → ∃ d, sv = .fro d)) ∨ (i ∈ rs ∧ ∃ t c, Γ[i]? = some (some (.own t c)) ∧ sv = .fro c.toD) := by
  unfold lendE at h
  rw [List.getElem?_mapIdx] at h
  cases e : Γ[i]? with
  | none =>
    rw [e] at h
    cases h
  | some x =>
    rw [e] at h
    have h' : (if i ∈ rs then frz1 (some x) else x) = some sv := Option.some.inj h
    by_cases hi : i ∈ rs
    · rw [if_pos hi] at h'
      unfold frz1 at h'
      split at h'
      · rename_i t c z
        cases z
        exact .inr ⟨hi, t, c, rfl, (Option.some.inj h').symm⟩
      · rename_i y ny z
        cases z
        subst h'
        refine .inl ⟨rfl, fun _ => ?_⟩
        cases sv with
        | fro d => exact ⟨d, rfl⟩
        | own t c => exact (ny t c rfl).elim
      · cases h'
    · rw [if_neg hi] at h'
      subst h'
      exact .inl ⟨rfl, fun z => (hi z).elim⟩
theorem lendE_in {rs : List Nat} {Γ : Env} {i : Nat} {t : Option Nat} {c : Own} (hi : i ∈ rs) (e : Γ[i]? = some (some (.own t c))) : (lendE rs Γ)[i]? = some (some (.fro c.toD)) := by
  unfold lendE
  rw [List.getElem?_mapIdx, e]
  show some (if i ∈ rs then frz1 _ else _) = _
  rw [if_pos hi]
  rfl
theorem backR_get {rs : List Nat} {Γ0 Γ : Env} {i : Nat} {sv : SV} (h : (backR rs Γ0 Γ)[i]? = some (some sv)) :
    (i ∈ rs ∧ (∃ t c, sv = .own t c) ∧ Γ0[i]? = some (some sv)) ∨ (Γ[i]? = some (some sv) ∧ (i ∈ rs → ∀ t c, Γ0[i]? ≠ some (some (.own t c)))) := by
  unfold backR at h
  rw [List.getElem?_mapIdx] at h
  cases e : Γ[i]? with
  | none =>
    rw [e] at h
    cases h
  | some x =>
    rw [e] at h
    have h' : (if i ∈ rs then (match Γ0[i]? with
      | some (some (.own t c)) => some (.own t c)
      | _ => x) else x) = some sv := Option.some.inj h
    by_cases hi : i ∈ rs
    · rw [if_pos hi] at h'
      split at h'
      · rename_i t c z
        cases h'
        exact .inl ⟨hi, ⟨t, c, rfl⟩, z⟩
      · rename_i ny
        subst h'
        exact .inr ⟨rfl, fun _ t c z => ny t c z⟩
    · rw [if_neg hi] at h'
      subst h'
      exact .inr ⟨rfl, fun z => (hi z).elim⟩

/-! ### the call -/
def flatOuts : List AV → List SV → Bool
  | .s _ :: as, .own _ c :: os => flatC c && flatOuts as os
  | _ :: as, _ :: os => flatOuts as os
  | _, _ => true
theorem flatOuts_get : ∀ {as : List AV} {os : List SV} {j i : Nat} {t : Option Nat} {c : Own}, flatOuts as os = true → as[j]? = some (.s i) → os[j]? = some (.own t c) → flatC c = true
  | [], _, j, i, t, c, _, e, _ => by simp at e
  | _ :: _, [], j, i, t, c, _, _, e => by simp at e
  | a :: as, o :: os, 0, i, t, c, h, e1, e2 => by
    cases e1
    cases e2
    exact (Bool.and_eq_true_iff.mp h).1
  | a :: as, o :: os, j + 1, i, t, c, h, e1, e2 => by
    have h' : flatOuts as os = true := by
      cases a with
      | d _ => exact h
      | s k =>
        cases o with
        | fro _ => exact h
        | own _ _ => exact (Bool.and_eq_true_iff.mp h).2
    exact flatOuts_get h' (by simpa using e1) (by simpa using e2)
/-- the heap with the lent ones as nobody's to change -/
noncomputable def lendF (rs : List Nat) (F H : Hp) (σ : L2.St) (Γ : Env) : Hp := fun b => open Classical in if (∃ i ∈ rs, ∃ t c, Γ[i]? = some (some (.own t c)) ∧ σ[i]? = some (some (.ref b))) then H b else F b
section
variable {B : Bx} {F H : Hp} {σ : L2.St} {Γ : Env} {rs : List Nat}
def Lent (rs : List Nat) (Γ : Env) (σ : L2.St) (b : Addr) : Prop := ∃ i ∈ rs, ∃ t c, Γ[i]? = some (some (.own t c)) ∧ σ[i]? = some (some (.ref b))
theorem lendF_yes {b : Addr} (h : Lent rs Γ σ b) : lendF rs F H σ Γ b = H b := by
  unfold lendF
  exact if_pos h
theorem lendF_no {b : Addr} (h : ¬ Lent rs Γ σ b) : lendF rs F H σ Γ b = F b := by
  unfold lendF
  exact if_neg h
theorem Lent.own {b : Addr} (h : Lent rs Γ σ b) : IsOwn Γ σ b := by
  obtain ⟨i, _, t, c, h1, h2⟩ := h
  exact ⟨i, t, c, h1, h2⟩
theorem lent_F (k : Ok B ⟨F, H, σ, Γ⟩) {b : Addr} (h : IsOwn Γ σ b) : F b = none ∧ ∃ o, H b = some o ∧ Mut (some o) := by
  obtain ⟨i, t, c, h1, h2⟩ := h
  obtain ⟨p, a1, a2, a3, _⟩ := k.own i t c h1
  have a1' : σ[i]? = some (some (.ref p)) := a1
  have h2' : σ[i]? = some (some (.ref b)) := h2
  rw [a1'] at h2'
  cases h2'
  exact ⟨a2, a3.there⟩
theorem lend_same (k : Ok B ⟨F, H, σ, Γ⟩) : Same F (lendF rs F H σ Γ) := fun b o e => by
  rw [lendF_no fun z => ?_]
  · exact e
  · have := (lent_F k z.own).1
    rw [e] at this
    cases this
theorem lend_ok (k : Ok B ⟨F, H, σ, Γ⟩) : Ok B ⟨lendF rs F H σ Γ, H, σ, lendE rs Γ⟩ := by
  refine ⟨fun b o e => ?_, by rw [show σ.length = Γ.length from k.len, lendE_length], fun i d e => ?_, fun i t c e => ?_, fun i j t t' c c' p e e' x x' => ?_, k.dom⟩
  · by_cases h : Lent rs Γ σ b
    · have e' : lendF rs F H σ Γ b = some o := e
      rw [lendF_yes h] at e'
      exact .inl e'
    · have e' : lendF rs F H σ Γ b = some o := e
      rw [lendF_no h] at e'
      exact k.ext b o e'
  · rcases lendE_get e with ⟨e1, _⟩ | ⟨hi, t, c, e1, e2⟩
    · obtain ⟨v, h1, h2⟩ := k.fro i d e1
      exact ⟨v, h1, h2.same (lend_same k)⟩
    · cases e2
      obtain ⟨p, h1, h2, h3, _⟩ := k.own i t c e1
      have hl : Lent rs Γ σ p := ⟨i, hi, t, c, e1, h1⟩
      refine ⟨.ref p, h1, ?_⟩
      have h3' := h3.keep (H' := H) (lend_same (rs := rs) k) fun _ z => z
      show Rep B.K (lendF rs F H σ Γ) c.toD (.ref p)
      have at_ : ∀ o, H p = some o → lendF rs F H σ Γ p = some o := fun o z => by rw [lendF_yes hl]; exact z
      cases c with
      | lst ds =>
        obtain ⟨vs, q1, q2⟩ := h3'
        exact ⟨p, vs, rfl, .inl (.inl (at_ _ q1)), q2⟩
      | dct ds =>
        obtain ⟨vs, q1, q2⟩ := h3'
        exact ⟨p, rfl, .inl ⟨vs, .inl (at_ _ q1), q2⟩⟩
      | dck ds =>
        obtain ⟨vs, q1, q2⟩ := h3'
        exact ⟨p, rfl, .inr ⟨vs, .inl (at_ _ q1), q2⟩⟩
  · rcases lendE_get e with ⟨e, hr⟩ | ⟨_, _, _, _, e2⟩
    · obtain ⟨p, h1, h2, h3, h4⟩ := k.own i t c e
      refine ⟨p, h1, ?_, h3.keep (lend_same k) fun _ z => z, h4⟩
      show lendF rs F H σ Γ p = none
      have nl : ¬ Lent rs Γ σ p := fun ⟨j, hj, t', c', z1, z2⟩ => by
        have := k.dis i j t t' c c' p e z1 h1 z2
        subst this
        obtain ⟨d, hd⟩ := hr hj
        cases hd
      rw [lendF_no nl]
      exact h2
    · cases e2
  · rcases lendE_get e with ⟨e, _⟩ | ⟨_, _, _, _, e2⟩
    · rcases lendE_get e' with ⟨e', _⟩ | ⟨_, _, _, _, e2⟩
      · exact k.dis i j t t' c c' p e e' x x'
      · cases e2
    · cases e2
end
/-- the call, told more of: what is not handed over stays as it is -/
theorem call_core2 {B : Bx} {F H : Hp} {σ : L2.St} {Γ Γ2 : PD.Env} {avs : List AV} {vs : List V} {svs outs : List SV} {φ : Fn} {r : RV} {n : Nat} {Q : VK} {E : XK} (k : Ok B ⟨F, H, σ, Γ⟩) (rp : RepAVs B ⟨F, H, σ, Γ⟩ avs vs) (hn : avs.length = n) (hd : (slotsOf avs).Nodup)
    (e1 : mkSV 0 avs Γ = some svs) (e2 : φ svs = .ok r outs) (e3 : backs avs outs Γ = some Γ2)
    (q : ∀ v F' H', Ok B ⟨F', H', σ, Γ2⟩ → Step ⟨F, H, σ, Γ⟩ ⟨F', H', σ, Γ2⟩ → RVok B ⟨F, H, σ, Γ⟩ ⟨F', H', σ, Γ2⟩ v r →
      (∀ (i : Nat) t c p o, Γ[i]? = some (some (.own t c)) → σ[i]? = some (some (.ref p)) → (∀ j : Nat, avs[j]? ≠ some (.s i)) → H p = some o → H' p = some o) → Q v H') : spF B.K n φ vs H Q E := by
  obtain ⟨l1, l2, g⟩ := mkSV_get rp e1
  obtain ⟨l3, gb⟩ := backs_get hd e3
  have lsv : vs.length = svs.length := by omega
  have own_of : ∀ (j : Nat) t c, (svs.map some)[j]? = some (some (.own t c)) → ∃ i t0 p, avs[j]? = some (.s i) ∧ Γ[i]? = some (some (.own t0 c)) ∧ σ[i]? = some (some (.ref p)) ∧ vs[j]? = some (.ref p) ∧ t = some j ∧ F p = none ∧ OwnOk B.K F H p c := fun j t c z => by
    obtain ⟨v, hv, z⟩ := g j _ (getSome z)
    rcases z with ⟨d', z1, _⟩ | ⟨i, d', z1, _⟩ | ⟨i, t0, c0, z1, z2, z3, z4⟩
    · cases z1
    · cases z1
    · rw [Nat.zero_add] at z1
      cases z1
      obtain ⟨p, h1, h2, h3, h4⟩ := k.own i t0 c z3
      have h1' : σ[i]? = some (some (.ref p)) := h1
      have z4' : σ[i]? = some (some v) := z4
      rw [h1'] at z4'
      cases z4'
      exact ⟨i, t0, p, z2, z3, h1, hv, rfl, h2, h3⟩
  have kc : Ok ⟨B.K, vs, H⟩ ⟨F, H, vs.map some, svs.map some⟩ := by
    refine ⟨k.ext, by simp only [List.length_map]; exact lsv, fun j d z => ?_, fun j t c z => ?_, fun j j' t t' c c' p z z' x x' => ?_, fun p o h => ⟨o, h⟩⟩
    · obtain ⟨v, hv, z⟩ := g j _ (getSome z)
      rcases z with ⟨d', z1, z2, z3⟩ | ⟨i, d', z1, z2, z3, z4⟩ | ⟨i, t0, c0, z1, _⟩
      · cases z1
        exact ⟨v, mapSome hv, z3⟩
      · cases z1
        obtain ⟨w, h1, h2⟩ := k.fro i d z3
        have h1' : σ[i]? = some (some w) := h1
        have z4' : σ[i]? = some (some v) := z4
        rw [h1'] at z4'
        cases z4'
        exact ⟨v, mapSome hv, h2⟩
      · cases z1
    · obtain ⟨i, t0, p, a1, a2, a3, a4, a5, a6, a7⟩ := own_of j t c z
      subst a5
      exact ⟨p, mapSome a4, a6, a7, a4⟩
    · obtain ⟨i, t0, p1, a1, a2, a3, a4, a5, _⟩ := own_of j t c z
      obtain ⟨i', t0', p2, b1, b2, b3, b4, b5, _⟩ := own_of j' t' c' z'
      rw [mapSome a4] at x
      rw [mapSome b4] at x'
      cases x
      cases x'
      have hii := k.dis i i' t0 t0' c c' p a2 b2 a3 b3
      subst hii
      exact slots_inj hd a1 b1
  have own_sub : ∀ p, IsOwn (svs.map some) (vs.map some) p → IsOwn Γ σ p := fun p ⟨j, t, c, z1, z2⟩ => by
    obtain ⟨i, t0, p1, a1, a2, a3, a4, _⟩ := own_of j t c z1
    rw [mapSome a4] at z2
    cases z2
    exact ⟨i, t0, c, a2, a3⟩
  refine ⟨F, svs, by omega, kc, ?_⟩
  rw [e2]
  intro v F' H' kp st rv
  -- an own slot that is not handed over stays as it is
  have nown : ∀ (i : Nat) t c p, Γ[i]? = some (some (.own t c)) → σ[i]? = some (some (.ref p)) → (∀ j : Nat, avs[j]? ≠ some (.s i)) → ¬ IsOwn (svs.map some) (vs.map some) p := fun i t c p z1 h1 nj ⟨j, t', c', w1, w2⟩ => by
    obtain ⟨i', t0', p2, b1, b2, b3, b4, _⟩ := own_of j t' c' w1
    rw [mapSome b4] at w2
    cases w2
    have hii := k.dis i i' t t0' c c' p z1 b2 h1 b3
    subst hii
    exact nj j b1
  have stays : ∀ p o, H p = some o → Mut (some o) → F p = none → ¬ IsOwn (svs.map some) (vs.map some) p → F' p = none := fun p o ho hm hF hno => by
    cases q : F' p with
    | none => rfl
    | some x =>
      exfalso
      rcases st.fh p x q with z | z | z | z
      · have z' : F p = some x := z
        rw [hF] at z'
        cases z'
      · exact hno z
      · have z' : H p = none := z
        rw [ho] at z'
        cases z'
      · exact z (kp.ext.immut q (st.fr p o ho hno) hm)
  have own2 : ∀ (i : Nat) t c, Γ2[i]? = some (some (.own t c)) → ∃ p, σ[i]? = some (some (.ref p)) ∧ F' p = none ∧ OwnOk B.K F' H' p c ∧ Tag B p t ∧ ∃ c0, Γ[i]? = some (some (.own t c0)) := fun i t c z => by
    rcases gb i _ z with ⟨z1, z2⟩ | ⟨j, t1, t2, c1, c2, z1, z2, z3, z4⟩
    · obtain ⟨p, h1, h2, h3, h4⟩ := k.own i t c z1
      obtain ⟨o, ho, hm⟩ := h3.there
      have nj : ∀ j : Nat, avs[j]? ≠ some (.s i) := fun j hj => by
        obtain ⟨d, hd⟩ := z2 j hj
        cases hd
      have hno := nown i t c p z1 h1 nj
      exact ⟨p, h1, stays p o ho hm h2 hno, h3.keep st.same fun o q => st.fr p o q hno, h4, c, z1⟩
    · cases z3
      obtain ⟨p, h1, h2, h3, h4⟩ := k.own i t c1 z4
      obtain ⟨p', x1, x2, x3, x4⟩ := kp.own j t2 c (mapSome z2)
      have hv : vs[j]? = some (.ref p') := getSome x1
      have hj : j < svs.length := by
        have := (List.getElem?_eq_some_iff.mp hv).1
        omega
      obtain ⟨v', hv', zz⟩ := g j _ (List.getElem?_eq_getElem hj)
      have epp : p' = p := by
        rcases zz with ⟨d', w1, w2, w3⟩ | ⟨i', d', w1, w2, w3, w4⟩ | ⟨i', t0, c0, w1, w2, w3, w4⟩
        · rw [z1] at w2
          cases w2
        · rw [z1] at w2
          cases w2
          have w3' : Γ[i]? = some (some (.fro d')) := w3
          rw [z4] at w3'
          cases w3'
        · rw [z1] at w2
          cases w2
          have w4' : σ[i]? = some (some v') := w4
          have h1' : σ[i]? = some (some (.ref p)) := h1
          rw [h1'] at w4'
          cases w4'
          rw [hv] at hv'
          cases hv'
          rfl
      subst epp
      exact ⟨p', h1, x2, x3, h4, c1, z4⟩
  have k2 : Ok B ⟨F', H', σ, Γ2⟩ := by
    refine ⟨kp.ext, by rw [show σ.length = Γ.length from k.len]; exact l3.symm, fun i d z => ?_, fun i t c z => ?_, fun i j t t' c c' p z z' x x' => ?_, fun p o h => ?_⟩
    · rcases gb i _ z with ⟨z1, _⟩ | ⟨j, t1, t2, c1, c2, _, _, z3, _⟩
      · obtain ⟨w, h1, h2⟩ := k.fro i d z1
        exact ⟨w, h1, h2.same st.same⟩
      · cases z3
    · obtain ⟨p, h1, h2, h3, h4, _⟩ := own2 i t c z
      exact ⟨p, h1, h2, h3, h4⟩
    · obtain ⟨_, _, _, _, _, c0, a1⟩ := own2 i t c z
      obtain ⟨_, _, _, _, _, c0', b1⟩ := own2 j t' c' z'
      exact k.dis i j t t' c0 c0' p a1 b1 x x'
    · obtain ⟨o', h'⟩ := k.dom p o h
      exact st.th p o' h'
  have st2 : Step ⟨F, H, σ, Γ⟩ ⟨F', H', σ, Γ2⟩ := by
    refine ⟨st.same, fun p o h n => st.fr p o h fun z => n (own_sub p z), st.th, fun p ⟨i, t, c, z1, z2⟩ => ?_, fun p o h => ?_⟩
    · obtain ⟨_, _, _, _, _, c0, a1⟩ := own2 i t c z1
      exact .inl ⟨i, t, c0, a1, z2⟩
    · rcases st.fh p o h with z | z | z
      · exact .inl z
      · exact .inr (.inl (own_sub p z))
      · exact .inr (.inr z)
  refine q v F' H' k2 st2 ?_ fun i t c p o z1 z2 nj ho => st.fr p o ho (nown i t c p z1 z2 nj)
  cases r with
  | fro d => exact rv
  | nw c =>
    obtain ⟨p, h1, h2, h3, h4, h5⟩ := rv
    refine ⟨p, h1, h2, h3, h4, fun ⟨i, t, c', z1, z2⟩ => ?_⟩
    obtain ⟨_, _, _, _, _, c0, a1⟩ := own2 i t c' z1
    obtain ⟨p', y1, y2, y3, _⟩ := k.own i t c0 a1
    have z2' : σ[i]? = some (some (.ref p)) := z2
    have y1' : σ[i]? = some (some (.ref p')) := y1
    rw [y1'] at z2'
    cases z2'
    obtain ⟨o, ho, _⟩ := y3.there
    have ho' : H p = some o := ho
    have h4' : H p = none := h4
    rw [h4'] at ho'
    cases ho'

/-- a call that only reads the slots rs -/
def callRF (φ : Fn) (rs : List Nat) (as : List ArgF) : EF := fun Γ => (evalArgs as Γ).bind fun avs Γ1 => if (slotsOf avs).Nodup then (ofOpt (mkSV 0 avs (lendE rs Γ1)) Γ1).bind fun svs Γ1 => match φ svs with
    | .ok r outs => if flatR r && flatOuts avs outs then (ofOpt (backs avs outs (lendE rs Γ1)) Γ1).bind fun Γ2 _ => .ok r (backR rs Γ1 Γ2) else .bad
    | .bad => .bad
  else .bad
section
variable {B : Bx} {F H : Hp} {σ : L2.St} {Γ : Env} {rs : List Nat}
theorem RepAVs.lend (k : Ok B ⟨F, H, σ, Γ⟩) {avs : List AV} {vs : List V} (h : RepAVs B ⟨F, H, σ, Γ⟩ avs vs) : RepAVs B ⟨lendF rs F H σ Γ, H, σ, lendE rs Γ⟩ avs vs := by
  induction avs generalizing vs with
  | nil => exact h
  | cons a as ih =>
    obtain ⟨v, r, rfl, h1, h2⟩ := h
    refine ⟨v, r, rfl, ?_, ih h2⟩
    cases a with
    | d d => exact Rep.same (lend_same k) h1
    | s i => exact h1
theorem callR_core {Γ2 : PD.Env} {avs : List AV} {vs : List V} {svs outs : List SV} {φ : Fn} {r : RV} {n : Nat} {Q : VK} {E : XK} (k : Ok B ⟨F, H, σ, Γ⟩) (rp : RepAVs B ⟨F, H, σ, Γ⟩ avs vs) (hn : avs.length = n) (hd : (slotsOf avs).Nodup)
    (e1 : mkSV 0 avs (lendE rs Γ) = some svs) (e2 : φ svs = .ok r outs) (e3 : backs avs outs (lendE rs Γ) = some Γ2) (fr : flatR r = true) (fo : flatOuts avs outs = true)
    (q : ∀ v F' H', Ok B ⟨F', H', σ, backR rs Γ Γ2⟩ → Step ⟨F, H, σ, Γ⟩ ⟨F', H', σ, backR rs Γ Γ2⟩ → RVok B ⟨F, H, σ, Γ⟩ ⟨F', H', σ, backR rs Γ Γ2⟩ v r → Q v H') : spF B.K n φ vs H Q E := by
  have k1 := lend_ok (rs := rs) k
  obtain ⟨l3, gb⟩ := backs_get hd e3
  refine call_core2 k1 (rp.lend k) hn hd e1 e2 e3 fun v F' H' k2 st2 rv keep => ?_
  obtain ⟨G, eG⟩ : ∃ G : Hp, G = fun b => open Classical in if Lent rs Γ σ b then none else F' b := ⟨_, rfl⟩
  have Gyes : ∀ {b}, Lent rs Γ σ b → G b = none := fun {b} h => by
    rw [eG]
    exact if_pos h
  have Gno : ∀ {b}, ¬ Lent rs Γ σ b → G b = F' b := fun {b} h => by
    rw [eG]
    exact if_neg h
  have sub : ∀ {b o}, G b = some o → F' b = some o := fun {b o} h => by
    by_cases z : Lent rs Γ σ b
    · rw [Gyes z] at h
      cases h
    · rw [Gno z] at h
      exact h
  have gone : ∀ {b}, F' b = none → G b = none := fun {b} h => by
    by_cases z : Lent rs Γ σ b
    · exact Gyes z
    · rw [Gno z]
      exact h
  have same : Same F G := fun b o e => by
    have nl : ¬ Lent rs Γ σ b := fun z => by
      have := (lent_F k z.own).1
      rw [e] at this
      cases this
    rw [Gno nl]
    exact st2.same b o (lend_same k b o e)
  -- the lent ones stay as they are
  have stay : ∀ {b o}, Lent rs Γ σ b → H b = some o → H' b = some o := fun {b o} ⟨i, hi, t, c, z1, z2⟩ ho => by
    refine st2.fr b o ho fun ⟨j, t', c', y1, y2⟩ => ?_
    rcases lendE_get y1 with ⟨y1, hr⟩ | ⟨_, _, _, _, y⟩
    · have := k.dis i j t t' c c' b z1 y1 z2 y2
      subst this
      obtain ⟨d, hd⟩ := hr hi
      cases hd
    · cases y
  have less : Less F' G := fun b o e m => by
    rw [Gno fun z => ?_]
    · exact e
    · obtain ⟨_, o', ho, hm⟩ := lent_F k z.own
      exact m (k2.ext.immut e (stay z ho) hm)
  -- what is own behind the call was own ahead
  have own2 : ∀ (i : Nat) t c, Γ2[i]? = some (some (.own t c)) → (Γ[i]? = some (some (.own t c)) ∧ (∀ j : Nat, avs[j]? ≠ some (.s i)) ∧ i ∉ rs) ∨ (flatC c = true ∧ i ∉ rs ∧ ∃ c0, Γ[i]? = some (some (.own t c0))) := fun i t c z => by
    rcases gb i _ z with ⟨z1, z2⟩ | ⟨j, t1, t2, c1, c2, z1, z2, z3, z4⟩
    · rcases lendE_get z1 with ⟨y1, hr⟩ | ⟨_, _, _, _, y⟩
      · refine .inl ⟨y1, fun j hj => ?_, fun hi => ?_⟩
        · obtain ⟨d, hd⟩ := z2 j hj
          cases hd
        · obtain ⟨d, hd⟩ := hr hi
          cases hd
      · cases y
    · cases z3
      rcases lendE_get z4 with ⟨y1, hr⟩ | ⟨_, _, _, _, y⟩
      · refine .inr ⟨flatOuts_get fo z1 z2, fun hi => ?_, c1, y1⟩
        obtain ⟨d, hd⟩ := hr hi
        cases hd
      · cases y
  have was : ∀ (i : Nat) t c, (backR rs Γ Γ2)[i]? = some (some (.own t c)) → ∃ c0, Γ[i]? = some (some (.own t c0)) := fun i t c z => by
    rcases backR_get z with ⟨_, _, z⟩ | ⟨z, _⟩
    · exact ⟨c, z⟩
    · rcases own2 i t c z with ⟨y, _⟩ | ⟨_, _, y⟩
      · exact ⟨c, y⟩
      · exact y
  have kk : Ok B ⟨G, H', σ, backR rs Γ Γ2⟩ := by
    refine ⟨fun b o e => k2.ext b o (sub e), by rw [backR_length, l3, lendE_length]; exact k.len, fun i d z => ?_, fun i t c z => ?_, fun i j t t' c c' p z z' x x' => ?_, k2.dom⟩
    · rcases backR_get z with ⟨_, ⟨t, c, y⟩, _⟩ | ⟨z, hr⟩
      · cases y
      · rcases gb i _ z with ⟨z1, _⟩ | ⟨j, t1, t2, c1, c2, _, _, z3, _⟩
        · rcases lendE_get z1 with ⟨y1, _⟩ | ⟨hi, t, c, y1, y2⟩
          · obtain ⟨w, h1, h2⟩ := k.fro i d y1
            exact ⟨w, h1, h2.same same⟩
          · exact (hr hi t c y1).elim
        · cases z3
    · rcases backR_get z with ⟨hi, _, z⟩ | ⟨z, hr⟩
      · obtain ⟨p, h1, h2, h3, h4⟩ := k.own i t c z
        have hl : Lent rs Γ σ p := ⟨i, hi, t, c, z, h1⟩
        exact ⟨p, h1, Gyes hl, h3.keep same fun o y => stay hl y, h4⟩
      · rcases own2 i t c z with ⟨y, nj, hi⟩ | ⟨fl, hi, c0, y⟩
        · obtain ⟨p, h1, h2, h3, h4⟩ := k.own i t c y
          obtain ⟨p', x1, x2, _, _⟩ := k2.own i t c z
          have x1' : σ[i]? = some (some (.ref p')) := x1
          have h1' : σ[i]? = some (some (.ref p)) := h1
          rw [h1'] at x1'
          cases x1'
          have e0 : (lendE rs Γ)[i]? = some (some (.own t c)) := by
            unfold lendE
            rw [List.getElem?_mapIdx, y]
            show some (if i ∈ rs then _ else _) = _
            rw [if_neg hi]
          exact ⟨p, h1, gone x2, h3.keep same fun o ho => keep i t c p o e0 h1 nj ho, h4⟩
        · obtain ⟨p', x1, x2, x3, x4⟩ := k2.own i t c z
          exact ⟨p', x1, gone x2, x3.less less fl, x4⟩
    · obtain ⟨c0, y⟩ := was i t c z
      obtain ⟨c0', y'⟩ := was j t' c' z'
      exact k.dis i j t t' c0 c0' p y y' x x'
  have st : Step ⟨F, H, σ, Γ⟩ ⟨G, H', σ, backR rs Γ Γ2⟩ := by
    refine ⟨same, fun p o h n => st2.fr p o h fun ⟨i, t, c, z1, z2⟩ => n ?_, st2.th, fun p ⟨i, t, c, z1, z2⟩ => ?_, fun p o h => ?_⟩
    · rcases lendE_get z1 with ⟨y1, _⟩ | ⟨_, _, _, _, y⟩
      · exact ⟨i, t, c, y1, z2⟩
      · cases y
    · obtain ⟨c0, y⟩ := was i t c z1
      exact .inl ⟨i, t, c0, y, z2⟩
    · rcases st2.fh p o (sub h) with z | z | z
      · by_cases y : Lent rs Γ σ p
        · exact .inr (.inl y.own)
        · have z' : lendF rs F H σ Γ p = some o := z
          rw [lendF_no y] at z'
          exact .inl z'
      · refine .inr (.inl ?_)
        obtain ⟨i, t, c, z1, z2⟩ := z
        rcases lendE_get z1 with ⟨y1, _⟩ | ⟨_, _, _, _, y⟩
        · exact ⟨i, t, c, y1, z2⟩
        · cases y
      · exact .inr (.inr z)
  refine q v G H' kk st ?_
  cases r with
  | fro d => exact Rep.less less d v fr rv
  | nw c =>
    obtain ⟨p, h1, h2, h3, h4, h5⟩ := rv
    refine ⟨p, h1, gone h2, h3.less less fr, h4, fun ⟨i, t, c', z1, z2⟩ => ?_⟩
    obtain ⟨c0, y⟩ := was i t c' z1
    obtain ⟨_, o, ho, _⟩ := lent_F k ⟨i, t, c0, y, z2⟩
    have h4' : H p = none := h4
    rw [h4'] at ho
    cases ho
theorem callRF_te {φ : Fn} {as : List ArgF} {Q : VK} {E : XK} {n : Nat} (hn : as.length = n) (h : toTE B (callRF φ rs as) σ H Q) : tCall (spF B.K n φ) [] E (toTAa B as) σ H Q := by
  obtain ⟨F, Γ, r, Γ', k, e, q⟩ := toTE_ok h
  obtain ⟨avs, Γ1, e1, w1⟩ := Res.of_bind e
  split at w1
  · rename_i hd
    obtain ⟨svs, Γ2, e2', w2⟩ := Res.of_bind w1
    obtain ⟨e2, rfl⟩ := of_ofOpt e2'
    split at w2
    · rename_i r' outs e3
      split at w2
      · rename_i hf
        obtain ⟨f1, f2⟩ := Bool.and_eq_true_iff.mp hf
        obtain ⟨Γ3, Γ4, e4', w3⟩ := Res.of_bind w2
        obtain ⟨e4, rfl⟩ := of_ofOpt e4'
        cases w3
        refine args_run k e1 fun vs F1 H1 k1 st1 rp => ?_
        show spF B.K n φ (vs ++ []) H1 Q E
        rw [List.append_nil]
        exact callR_core k1 rp (by rw [evalArgs_length e1]; exact hn) hd e2 e3 e4 f1 f2 fun v F2 H2 k2 st2 rv => q v F2 H2 k2 (st1.trans st2) (rv.step st1)
      · cases w2
    · cases w2
  · cases w1
end
section
variable {B : Bx} {X : Cx}
theorem ee_callR (rs : List Nat) {x : Str} {st : Stmt} {ps : List Str} {j k : Nat} {φ : Fn} {p pos : Pos} {e : Expr} {es : List Expr} {as : List ArgF} (hK : X.K = B.K) (D : Def X.prog X.w X.K X.mg X.base x st ps k φ) (hr : Room j X.A) (hq : X.A.guards = some []) (hj : k ≤ j) (ha : EAs B X (e :: es) as) (hg : Gl X x) (hn : as.length = ps.length := by rfl)
    (hdb : (x == ("__debug__" : Str)) = false := by decide) (he : starEach (e :: es) X.env = (false, eval e X.env) :: starEach es X.env := by rfl) (hpl : (backTo pos (starEach es X.env)).any (·.1) = false := by rfl) :
    EE B X (.Call (.Name x p) (e :: es) [] pos) (callRF φ rs as) := by
  obtain ⟨f, fd, hm, FD, hb, F⟩ := D.ex
  exact PE.imp (pe_callG (E := E0) F (hr.mono hj) hq hg hm FD.kp hb ha hdb he hpl) fun σ H Q q => by
    rw [hK]
    exact callRF_te hn q
end
end PD
end

section
set_option maxHeartbeats 1000000
/-! PE3: repr of data with dicts whose keys are tuples. -/
namespace PD
open PySem PySem.Spec PyProof.Rows L2
/-- the table of modules is no list of the written part -/
def NoSys (K : PySem.W.Frag) : Prop := ∃ o, K.lookup sysModules = some o ∧ o.cls ≠ .type "list"
mutual
def tupKeys : PyData → Bool
  | .list xs => tupKeysAll xs
  | .tuple xs => tupKeysAll xs
  | .dict kvs => tupKeysV kvs
  | _ => true
def tupKeysAll : List PyData → Bool
  | [] => true
  | x :: xs => tupKeys x && tupKeysAll xs
def tupKeysV : List (PyData × PyData) → Bool
  | [] => true
  | (k, v) :: r => isTup k && (tupKeys v && tupKeysV r)
def isTup : PyData → Bool
  | .tuple _ => true
  | _ => false
end
section
variable {X : Cx} {pins : List (Addr × Obj)} {σ : L2.St} {H : Hp} {s : Shared}
theorem sysNone (I : Inv X pins σ H s) (ns : NoSys X.K) : H sysModules = none := by
  obtain ⟨o, h, _⟩ := ns
  exact (I.bs sysModules o (I.mod.kin _ _ h)).2
theorem reads_keys {h : Heap} : ∀ {ks : List Key} {us : List Value}, Vals (ks.map kV) us → ReadsAll h us (ks.map keyD) []
  | [], us, r => by
    cases r
    exact .nil
  | k :: ks, us, r => by
    cases r with
    | cons r1 r2 =>
      have t := reads_keys (h := h) r2
      cases k with
      | inl i =>
        obtain ⟨t1, rfl⟩ := r1
        exact ReadsAll.cons (as := []) (bs := []) (.int i t1) t
      | inr x =>
        obtain ⟨t1, rfl⟩ := r1
        exact ReadsAll.cons (as := []) (bs := []) (.str x t1) t
theorem reads_key (I : Inv X pins σ H s) {b : Addr} {ks : List Key} (e : H b = some (.tup (ks.map kV))) : Reads s.heap (.ref b) (.tuple (ks.map keyD)) [] := by
  obtain ⟨its, rv, ⟨o, ho, hc, n, hd⟩, _⟩ := I.tuple (.inl (.inl e))
  exact Reads.tuple ho hc hd (reads_keys rv)
end
section
variable {X : Cx} {pins : List (Addr × Obj)} {σ : L2.St} {H : Hp} {s : Shared}
mutual
theorem rd_any (I : Inv X pins σ H s) (ns : NoSys X.K) : ∀ (d : PyData) (v : V) (u : Value), tupKeys d = true → Rep X.K H d v → RelV v u → ∃ as, Reads s.heap u d as ∧ sysModules ∉ as
  | .none, _, _, _, h, r => by
    have h' : _ = V.non := h
    subst h'
    cases r
    exact ⟨_, Reads.none, by simp⟩
  | .bool b, _, _, _, h, r => by
    have h' : _ = V.bl b := h
    subst h'
    cases r
    exact ⟨_, Reads.bool b, by simp⟩
  | .int i, _, _, _, h, r => by
    have h' : _ = V.int i := h
    subst h'
    obtain ⟨t, rfl⟩ := r
    exact ⟨_, Reads.int i t, by simp⟩
  | .str x, _, _, _, h, r => by
    have h' : _ = V.str x := h
    subst h'
    obtain ⟨t, rfl⟩ := r
    exact ⟨_, Reads.str x t, by simp⟩
  | .list xs, _, _, tk, h, r => by
    obtain ⟨a, vs, rfl, h2, h3⟩ := h
    cases (show _ = Value.ref a from r)
    obtain ⟨its, rv, ⟨o, n, ho, hc, _, hd⟩, _⟩ := I.list h2.sq
    obtain ⟨as, hr, hn⟩ := rd_anyL I ns xs vs its tk h3 rv
    refine ⟨_, Reads.list ho hc hd hr, ?_⟩
    rw [List.mem_cons]
    rintro (z | z)
    · rw [← z] at h2
      rcases h2 with (h2 | ⟨_, h2⟩) | ⟨its', n', h2, _⟩
      · rw [sysNone I ns] at h2
        cases h2
      · rw [sysNone I ns] at h2
        cases h2
      · obtain ⟨o', h5, h6⟩ := ns
        rw [h2] at h5
        cases h5
        exact h6 rfl
    · exact hn z
  | .tuple xs, _, _, tk, h, r => by
    obtain ⟨a, vs, rfl, h2, h3⟩ := h
    cases (show _ = Value.ref a from r)
    obtain ⟨its, rv, ⟨o, ho, hc, n, hd⟩, _⟩ := I.tuple h2.sq
    obtain ⟨as, hr, hn⟩ := rd_anyL I ns xs vs its tk h3 rv
    exact ⟨_, Reads.tuple ho hc hd hr, hn⟩
  | .dict kvs, _, _, tk, h, r => by
    obtain ⟨a, rfl, h2⟩ := h
    cases (show _ = Value.ref a from r)
    rcases h2 with ⟨ks, h2, h3⟩ | ⟨ks, h2, h3⟩
    · obtain ⟨_, lo, xs, kt, o, es, ep, ho, hc, hd, he, _, _⟩ := dt_rd I.hok h2
      obtain ⟨as, bs, q1, q2, n1, n2⟩ := rd_anyT I ns kvs ks xs tk h3 kt
      have e1 : es.toList.map (·.key) = xs.map fun x => Value.ref x.2.1 := by
        rw [he, List.map_map]
        rfl
      have e2 : es.toList.map (·.val) = xs.map fun x => x.2.2 := by
        rw [he, List.map_map]
        rfl
      refine ⟨_, Reads.dict ho hc.1 hd (by rw [e1]; exact q1) (by rw [e2]; exact q2), ?_⟩
      have la := beq_eq_false_iff_ne.mp lo
      simp only [List.cons_append, List.mem_cons, List.mem_append, not_or]
      exact ⟨fun z => la z.symm, n1, n2⟩
    · cases kvs with
      | nil =>
        have h3' : ks = [] := h3
        subst h3'
        obtain ⟨_, lo, vs, kv, o, es, ep, ho, hc, hd, _, pr, _⟩ := dk_rd I.hok h2
        cases kv
        have es0 : es.toList = [] := by
          cases q : es.toList with
          | nil => rfl
          | cons e r =>
            rw [q] at pr
            cases pr
        refine ⟨_, Reads.dict ho hc.1 hd (by rw [es0]; exact .nil) (by rw [es0]; exact .nil), ?_⟩
        have la := beq_eq_false_iff_ne.mp lo
        simp only [List.append_nil, List.mem_cons, List.not_mem_nil, or_false]
        exact fun z => la z.symm
      | cons p r =>
        obtain ⟨k, d⟩ := p
        obtain ⟨kk, v, r', _, hk, _⟩ := h3
        have tk' : isTup k = true := (Bool.and_eq_true_iff.mp tk).1
        rw [hk] at tk'
        cases kk <;> cases tk'
theorem rd_anyL (I : Inv X pins σ H s) (ns : NoSys X.K) : ∀ (ds : List PyData) (vs : List V) (us : List Value), tupKeysAll ds = true → RepL X.K H ds vs → Vals vs us → ∃ as, ReadsAll s.heap us ds as ∧ sysModules ∉ as
  | [], _, _, _, h, r => by
    have h' : _ = [] := h
    subst h'
    cases r
    exact ⟨_, ReadsAll.nil, by simp⟩
  | d :: ds, _, _, tk, h, r => by
    obtain ⟨v, vr, rfl, h1, h2⟩ := h
    have tk' : tupKeys d = true ∧ tupKeysAll ds = true := Bool.and_eq_true_iff.mp tk
    cases r with
    | cons r1 r2 =>
      obtain ⟨as, q1, n1⟩ := rd_any I ns d _ _ tk'.1 h1 r1
      obtain ⟨bs, q2, n2⟩ := rd_anyL I ns ds _ _ tk'.2 h2 r2
      exact ⟨_, ReadsAll.cons q1 q2, by rw [List.mem_append]; exact fun z => z.elim n1 n2⟩
theorem rd_anyT (I : Inv X pins σ H s) (ns : NoSys X.K) : ∀ (kvs : List (PyData × PyData)) (ks : List (List Key × V)) (xs : List (List Key × Addr × Value)), tupKeysV kvs = true → RepT X.K H kvs ks → KT H ks xs →
    ∃ as bs, ReadsAll s.heap (xs.map fun x => Value.ref x.2.1) (kvs.map (·.1)) as ∧ ReadsAll s.heap (xs.map fun x => x.2.2) (kvs.map (·.2)) bs ∧ sysModules ∉ as ∧ sysModules ∉ bs
  | [], _, _, _, h, r => by
    have h' : _ = [] := h
    subst h'
    cases r
    exact ⟨[], [], .nil, .nil, by simp, by simp⟩
  | (k, d) :: kvs, _, _, tk, h, r => by
    obtain ⟨kk, v, r', rfl, rfl, h3, h4⟩ := h
    have tk' : tupKeys d = true ∧ tupKeysV kvs = true := Bool.and_eq_true_iff.mp (Bool.and_eq_true_iff.mp tk).2
    cases r with
    | @cons _ q _ qs r1 r2 =>
      obtain ⟨e1, e2, e3⟩ := r1
      obtain ⟨as, bs, q1, q2, n1, n2⟩ := rd_anyT I ns kvs _ _ tk'.2 h4 r2
      obtain ⟨cs, q3, n3⟩ := rd_any I ns d _ _ tk'.1 h3 e3
      exact ⟨[] ++ as, cs ++ bs, .cons (reads_key I e2) q1, .cons q3 q2, by simpa using n1, by rw [List.mem_append]; exact fun z => z.elim n3 n2⟩
end
end
def isRefD : PyData → Bool
  | .list _ => true
  | .tuple _ => true
  | .dict _ => true
  | _ => false
def opReprD : List PyData → Option RV
  | [d] => if isRefD d && tupKeys d && decide (d.depth ≤ 60) && d.showable && small24 d.shown.length then some (.fro (.str d.shown)) else none
  | _ => none
theorem cb_reprD {X : Cx} (hu : X.A.units + 80 < cLine) (hg : X.A.guards = some []) (ns : NoSys X.K) : CallR X (.builtin "repr") (rD X.K opReprD) := by
  intro pins s σ H vs us Q I r h
  obtain ⟨F, ds, rv, e, rb, eo, q⟩ := h
  unfold opReprD at eo
  split at eo
  · rename_i d
    split at eo
    · rename_i hc
      simp only [Bool.and_eq_true] at hc
      obtain ⟨⟨⟨⟨h1, h2⟩, h5⟩, h3⟩, h4⟩ := hc
      cases eo
      obtain ⟨x, rfl, rx⟩ := rb.one
      obtain ⟨u, rfl, ru⟩ := r.one
      have rp := rx.rep e
      have ref : ∃ a, u = .ref a := by
        cases d with
        | list xs =>
          obtain ⟨a, _, rfl, _⟩ := rp
          exact ⟨a, ru⟩
        | tuple xs =>
          obtain ⟨a, _, rfl, _⟩ := rp
          exact ⟨a, ru⟩
        | dict xs =>
          obtain ⟨a, rfl, _⟩ := rp
          exact ⟨a, ru⟩
        | _ => cases h1
      obtain ⟨a, rfl⟩ := ref
      obtain ⟨as, rd, nm⟩ := rd_any I ns d _ _ h2 rp ru
      have dep := of_decide_eq_true h5
      refine PySem.repr_of_reads' rd h3 (fun _ => nm) hg (by omega) (fun _ _ z => z) (fun h' t tk hk => ?_) (small24_ok h4)
      exact ⟨.str _, H, I.kept (t' := tk) hk, ⟨t, rfl⟩, q _ F H (Grow.refl e) (rvg_str _)⟩
    · cases eo
  · cases eo
end PD
end

section
set_option maxHeartbeats 1000000
/-! PE4: a hook with a check of one's own on the written part. -/
namespace PD
open PySem PySem.Spec PyProof.Rows L2
def kOf (n : Nat) (g : Addr → Option Obj) : PySem.W.Frag := He.frG g (sysModules :: He.asD g n)
abbrev AlQ : Type := He.AlD × Bool
def obsQ (n : Nat) (fa : List He.Fa) (fn : List He.DefD) (chk : PySem.W.Frag → Bool) (g : Addr → Option Obj) : AlQ := (He.obsD fa fn (kOf n g), chk (kOf n g))
def hookQ (n : Nat) (fa : List He.Fa) (fn : List He.DefD) (chk : PySem.W.Frag → Bool) : PySem.W.Hook where
  α := AlQ
  obs := fun s => obsQ n fa fn chk s.heap.get?
  val := fun _ => (He.valD fn, true)
  says := fun _ h => ∃ K : PySem.W.Frag, K.In h ∧ He.SaysD fa fn K ∧ chk K = true
  of := fun _ _ e => ⟨_, He.frG_in, congrArg (fun z : AlQ => z.1) e, congrArg (fun z : AlQ => z.2) e⟩
  keeps := fun _ _ _ ⟨K, hK, c⟩ k => ⟨K, PySem.W.Frag.In.keeps hK k, c⟩
theorem obsQ_eq {n : Nat} {fa : List He.Fa} {fn : List He.DefD} {chk : PySem.W.Frag → Bool} {g : Addr → Option Obj} {s : Shared} (h : ∀ a, g a = s.heap.get? a) : obsQ n fa fn chk g = (hookQ n fa fn chk).obs s := by
  have e : g = s.heap.get? := funext h
  rw [e] <;> rfl
def noSysB (K : PySem.W.Frag) : Bool := match K.lookup sysModules with
  | some ⟨.type c, _, _, _⟩ => decide (c ≠ "list")
  | _ => false
theorem noSys_of {K : PySem.W.Frag} (h : noSysB K = true) : NoSys K := by
  unfold noSysB at h
  cases e : K.lookup sysModules with
  | none =>
    rw [e] at h
    cases h
  | some o =>
    rw [e] at h
    obtain ⟨oc, od, dt, sl⟩ := o
    cases oc with
    | type c =>
      refine ⟨_, e, fun z => ?_⟩
      cases z
      exact of_decide_eq_true (show decide ("list" ≠ "list") = true from h) rfl
    | _ => cases h
end PD
end

section
set_option maxHeartbeats 1000000
/-! PE5: dicts of unlike lengths are unequal. -/
namespace PySem.SeqAt
section
variable {prog : Program} {w : World} {A : Around} {E : Value → Shared → Prop} {s : Shared}
theorem pd_unlike {nm : String} {a b : Addr} {oa ob : Obj} {es fs : Array DictEntry} {ep eq : Nat} {Q : Bool → Shared → Prop} (na : (a == sysModules) = false) (nb : (b == sysModules) = false)
    (ga : s.heap.get? a = some oa) (da : oa.data = .dict es ep) (gb : s.heap.get? b = some ob) (db : ob.data = .dict fs eq) (hsz : es.size ≠ fs.size)
    (done : Q false s) : wpAny (model prog w) A (Builtin.Dict.samePairs nm a b) Q E s := by
  unfold Builtin.Dict.samePairs Builtin.Dict.showsAll
  rw [if_neg (by rw [na]; decide), if_neg (by rw [nb]; decide)]
  refine wpAny_bind (wpAny_pure (wpAny_bind (wpAny_pure (wpAny_bind (wpAny_dictEntries ga da ?_)))))
  dsimp only
  refine wpAny_bind (wpAny_dictEntries gb db ?_)
  rw [if_pos (by simpa using hsz)]
  exact wpAny_bind (wpAny_rule (wpAny_pure done))
theorem pd_dict_cmp2 {a b : Addr} {ne r : Bool} {Q : Value → Shared → Prop} (ta : s.TypeIs (.ref a) "dict") (tb : s.TypeIs (.ref b) "dict") (hu : A.units < cLine)
    (same : ∀ (nm : String) (E : Value → Shared → Prop) (Q : Bool → Shared → Prop), Q r s → wpAny (model prog w) A.in1 (Builtin.Dict.samePairs nm a b) Q E s) (h : Q (.bool (if ne = true then !r else r)) s) :
    wpAny (model prog w) A (richCompare (if ne = true then .NotEq else .Eq) (.ref a) (.ref b)) Q E s := by
  cases ne with
  | true =>
    refine wpAny_richCompare_same_room (op := .NotEq) ta tb PySem.F.slot_dict_ne (wpAny_call_entry PySem.F.slot_dict_ne ta PySem.F.entry_dict_ne ?_ (PySem.F.args_dict_ne_2 _ _)) hu
    show wpAny _ _ (Builtin.Dict.dictSlotArgs "__ne__" ⟨[.ref a, .ref b], []⟩ >>= _) _ _ s
    refine wpAny_bind ?_
    unfold Builtin.Dict.dictSlotArgs
    refine wpAny_bind (wpAny_notOrdered_dict ta ?_)
    show wpAny _ _ (pure (Value.ref a, Value.ref b)) _ _ s
    refine wpAny_pure (wpAny_bind (wpAny_isInstance (T := "dict") tb PySem.F.sub_dict_dict ?_))
    simp only [Bool.not_true, Bool.false_eq_true, if_false]
    refine wpAny_bind (wpAny_pure (wpAny_bind (wpAny_pure (wpAny_bind (same _ _ _ ?_)))))
    exact wpAny_pure ⟨_, rfl, (fun x => nomatch x), by simpa using h⟩
  | false =>
    refine wpAny_richCompare_same_room (op := .Eq) ta tb PySem.F.slot_dict_eq (wpAny_call_entry PySem.F.slot_dict_eq ta PySem.F.entry_dict_eq ?_ (PySem.F.args_dict_eq_2 _ _)) hu
    show wpAny _ _ (Builtin.Dict.dictSlotArgs "__eq__" ⟨[.ref a, .ref b], []⟩ >>= _) _ _ s
    refine wpAny_bind ?_
    unfold Builtin.Dict.dictSlotArgs
    refine wpAny_bind (wpAny_notOrdered_dict ta ?_)
    show wpAny _ _ (pure (Value.ref a, Value.ref b)) _ _ s
    refine wpAny_pure (wpAny_bind (wpAny_isInstance (T := "dict") tb PySem.F.sub_dict_dict ?_))
    simp only [Bool.not_true, Bool.false_eq_true, if_false]
    refine wpAny_bind (wpAny_pure (wpAny_bind (wpAny_pure (wpAny_bind (same _ _ _ ?_)))))
    exact wpAny_pure ⟨_, rfl, (fun x => nomatch x), by simpa using h⟩
end
end PySem.SeqAt
namespace PD
open PySem PySem.Spec PyProof.Rows L2
def lensD : List PyData → Option (Nat × Nat)
  | [.dict ks, .dict ls] => some (ks.length, ls.length)
  | _ => none
def opEqY (ds : List PyData) : Option RV := match lensD ds with
  | some (n, m) => if n = m then opEqX ds else some (.fro (.bool false))
  | none => opEqX ds
def opNeY (ds : List PyData) : Option RV := match lensD ds with
  | some (n, m) => if n = m then opNeX ds else some (.fro (.bool true))
  | none => opNeX ds
section
variable {X : Cx}
theorem lensD_some {ds : List PyData} {n m : Nat} (h : lensD ds = some (n, m)) : ∃ ks ls, ds = [.dict ks, .dict ls] ∧ ks.length = n ∧ ls.length = m := by
  unfold lensD at h
  split at h
  · cases h
    exact ⟨_, _, rfl, rfl, rfl⟩
  · cases h
theorem cmp_unlike {pins : List (Addr × Obj)} {σ : L2.St} {H : Hp} {s : Shared} (I : Inv X pins σ H s) (hu : X.A.units + 80 < cLine) (ne : Bool) {F : Hp} {x y : V} {u v : Value} {Q : VK} (e : Ext F H) {ks ls : List (PyData × PyData)} (rb : RepBs X.K F H [.dict ks, .dict ls] [x, y]) (hn : ks.length ≠ ls.length)
    (rx : RelV x v) (ry : RelV y u) (q : Q (.bl ne) H) : wpAny (model X.prog X.w) X.A (compareOp (if ne = true then .NotEq else .Eq) v u) (EP X pins σ Q) X.xe s := by
  obtain ⟨x', y', ee, h1, h2⟩ := rb.two
  cases ee
  obtain ⟨a, rfl, d1⟩ := h1.dict e
  obtain ⟨b, rfl, d2⟩ := h2.dict e
  cases (show v = Value.ref a from rx)
  cases (show u = Value.ref b from ry)
  have up1 : (∃ ks', Rd H a (.dT ks') ∧ RepT X.K F ks ks') ∨ ∃ ks', Rd H a (.dK ks') ∧ RepA X.K F ks ks' := d1
  have up2 : (∃ ks', Rd H b (.dT ks') ∧ RepT X.K F ls ks') ∨ ∃ ks', Rd H b (.dK ks') ∧ RepA X.K F ls ks' := d2
  obtain ⟨oa, es, ep, n1, g1, c1, t1, z1, _⟩ := raw_dict I up1
  obtain ⟨ob, fs, eq, n2, g2, c2, t2, z2, _⟩ := raw_dict I up2
  have hsz : es.size ≠ fs.size := by omega
  have ta : s.TypeIs (.ref a) "dict" := ⟨oa, g1, c1.1⟩
  have tb : s.TypeIs (.ref b) "dict" := ⟨ob, g2, c2.1⟩
  have := SeqAt.pd_dict_cmp2 (prog := X.prog) (w := X.w) (A := X.A) (E := X.xe) (ne := ne) (r := false) (Q := EP X pins σ Q) ta tb (by omega) (fun nm E Q hq => SeqAt.pd_unlike n1 n2 g1 t1 g2 t2 hsz hq) ⟨.bl ne, H, I, by cases ne <;> rfl, q⟩
  cases ne with
  | true => exact this
  | false => exact this
theorem or_eqy (hu : X.A.units + 80 < cLine) : OpR X (compareOp .Eq) (rD2 X.K opEqY) := by
  intro pins s σ H x y v u Q I rx ry h
  obtain ⟨F, ds, rv, e, rb, eo, q⟩ := h
  unfold opEqY at eo
  split at eo
  · rename_i n m hl
    split at eo
    · exact or_eqx hu pins s σ H x y v u Q I rx ry ⟨F, ds, rv, e, rb, eo, q⟩
    · rename_i hnm
      cases eo
      obtain ⟨ks, ls, rfl, rfl, rfl⟩ := lensD_some hl
      exact cmp_unlike I hu false e rb hnm rx ry (q _ F H (Grow.refl e) (rvg_bl _))
  · exact or_eqx hu pins s σ H x y v u Q I rx ry ⟨F, ds, rv, e, rb, eo, q⟩
theorem or_ney (hu : X.A.units + 80 < cLine) : OpR X (compareOp .NotEq) (rD2 X.K opNeY) := by
  intro pins s σ H x y v u Q I rx ry h
  obtain ⟨F, ds, rv, e, rb, eo, q⟩ := h
  unfold opNeY at eo
  split at eo
  · rename_i n m hl
    split at eo
    · exact or_nex hu pins s σ H x y v u Q I rx ry ⟨F, ds, rv, e, rb, eo, q⟩
    · rename_i hnm
      cases eo
      obtain ⟨ks, ls, rfl, rfl, rfl⟩ := lensD_some hl
      exact cmp_unlike I hu true e rb hnm rx ry (q _ F H (Grow.refl e) (rvg_bl _))
  · exact or_nex hu pins s σ H x y v u Q I rx ry ⟨F, ds, rv, e, rb, eo, q⟩
end
end PD
end

section
set_option maxHeartbeats 1000000
/-! PE6: return x if c else y, x a container of one's own. -/
namespace PD
open PySem PySem.Spec PyProof.Rows L2
def toTR (B : Bx) (f : EF) : TE := fun σ H Q => ∃ F Γ, Ok B ⟨F, H, σ, Γ⟩ ∧ match f Γ with
  | .ok r Γ' => ∀ v σ' F' H', Ok B ⟨F', H', σ', Γ'⟩ → Step ⟨F, H, σ, Γ⟩ ⟨F', H', σ', Γ'⟩ → RVr B ⟨F', H', σ', Γ'⟩ v r → Q v H'
  | .bad => False
abbrev ER (B : Bx) (X : Cx) (e : Expr) (f : EF) : Prop := PE X e (toTR B f)
theorem toTR_mk {B : Bx} {f : EF} {F H : Hp} {σ : L2.St} {Γ Γ' : Env} {r : RV} {Q : VK} (k : Ok B ⟨F, H, σ, Γ⟩) (e : f Γ = .ok r Γ')
    (h : ∀ v σ' F' H', Ok B ⟨F', H', σ', Γ'⟩ → Step ⟨F, H, σ, Γ⟩ ⟨F', H', σ', Γ'⟩ → RVr B ⟨F', H', σ', Γ'⟩ v r → Q v H') : toTR B f σ H Q := by
  refine ⟨F, Γ, k, ?_⟩
  rw [e]
  exact h
theorem toTR_ok {B : Bx} {f : EF} {σ : L2.St} {H : Hp} {Q : VK} (h : toTR B f σ H Q) : ∃ F Γ r Γ', Ok B ⟨F, H, σ, Γ⟩ ∧ f Γ = .ok r Γ' ∧
    ∀ v σ' F' H', Ok B ⟨F', H', σ', Γ'⟩ → Step ⟨F, H, σ, Γ⟩ ⟨F', H', σ', Γ'⟩ → RVr B ⟨F', H', σ', Γ'⟩ v r → Q v H' := by
  obtain ⟨F, Γ, k, h⟩ := h
  cases e : f Γ with
  | ok r Γ' =>
    rw [e] at h
    exact ⟨F, Γ, r, Γ', k, e, h⟩
  | bad =>
    rw [e] at h
    exact h.elim
def varOF (i : Nat) : EF := fun Γ => match slotD i Γ with
  | some (.own none c) => .ok (.nw c) (Γ.set i none)
  | some (.fro d) => .ok (.fro d) Γ
  | _ => .bad
section
variable {B : Bx} {X : Cx}
theorem s_retR {e : Expr} {f : EF} {pos : Pos} (he : ER B X e f) : SS B X (.Return (some e) pos) (retF f) := PS.imp (ps_ret he) fun D σ H ⟨F, Γ, k, h⟩ => by
  obtain ⟨r, Γ', e1, h⟩ := sof_cases h
  exact toTR_mk k e1 fun v σ' F' H' k' st rv => h v σ' F' H' k' st rv
theorem er_e {e : Expr} {f : EF} (he : EE B X e f) : ER B X e f := PE.imp he fun σ H Q q => by
  obtain ⟨F, Γ, r, Γ', k, e1, h⟩ := toTR_ok q
  exact toTE_mk k e1 fun v F' H' k' st rv => h v σ F' H' k' st (rv.r k.dom)
theorem er_o (i : Nat) {x : Str} {p : Pos} (hN : X.N[i]? = some x := by rfl) (hv : Vis X.env.scope x := by first | exact Or.inl rfl | exact Or.inr (Or.inl rfl) | exact Or.inr (Or.inr rfl)) (hd : (x == ("__debug__" : Str)) = false := by decide)
    (hcd : (x == ("__classdict__" : Str)) = false := by decide) : ER B X (.Name x p) (varOF i) := PE.imp (pe_var hN hv hd hcd) fun σ H Q q => by
  obtain ⟨F, Γ, r, Γ', k, e1, h⟩ := toTR_ok q
  unfold varOF at e1
  split at e1
  · rename_i c es
    cases e1
    have ei := of_slotD es
    obtain ⟨p, h1, h2, h3, h4⟩ := k.own i none c ei
    refine ⟨_, h1, h _ (σ.set i none) F H (k.drop i none) ⟨Same.refl _, fun _ _ h _ => h, fun _ o h => ⟨o, h⟩, fun p q => .inl (IsOwn.drop q), fun _ _ h => .inl h⟩ ⟨p, rfl, h2, h3, h4, ?_⟩⟩
    rintro ⟨j, t, c', q, e⟩
    rcases set_cases q with ⟨_, e', _⟩ | ⟨hj, q⟩
    · cases e'
    · rw [List.getElem?_set_ne (Ne.symm hj)] at e
      exact hj (k.dis j i t none c' c p q ei e h1)
  · rename_i d es
    cases e1
    have ei := of_slotD es
    obtain ⟨v, h1, h2⟩ := k.fro i d ei
    exact ⟨v, h1, h v σ F H k (Step.refl _) h2⟩
  · cases e1
theorem er_if {c a b : Expr} {t : TF} {f g : EF} {pos : Pos} (hc : ET B X c t) (ha : ER B X a f) (hb : ER B X b g) : ER B X (.IfExp c a b pos) (ifF t f g) := PE.imp (pe_ifExp hc ha hb) fun σ H Q q => by
  obtain ⟨F, Γ, r, Γ', k, e, q⟩ := toTR_ok q
  obtain ⟨b, Γ1, e1, e2⟩ := Res.of_bind e
  refine ⟨F, Γ, b, Γ1, k, e1, fun F1 H1 k1 st1 => ?_⟩
  cases b with
  | true => exact toTR_mk k1 e2 fun v σ' F' H' k' st rv => q v σ' F' H' k' (st1.trans st) rv
  | false => exact toTR_mk k1 e2 fun v σ' F' H' k' st rv => q v σ' F' H' k' (st1.trans st) rv
end
end PD
end

section
set_option maxHeartbeats 400000
namespace PD
open PySem PySem.Spec PyProof.Rows L2
def top (i : Nat) : Stmt := PySem.Challenge.pw_tanhall_k02_whole_figures_put_together_f.main.body.getD i (.Pass ⟨0, 0, 0, 0⟩)
abbrev FnP (K : PySem.W.Frag) (x : Str) (st : Stmt) (f : Addr) (fd : FuncData) : Prop := FunD K x x (defArgs st) (defBody st) (defScope st) [] [] f fd
abbrev fuel : Nat := 1000000
abbrev s__law_cell : Stmt := top 22
abbrev s__law_generator : Stmt := top 24
abbrev s__law_halves : Stmt := top 32
abbrev s__law_kinds : Stmt := top 35
abbrev s__law_put : Stmt := top 31
abbrev s__law_hash : Stmt := top 23
abbrev s__law_random : Stmt := top 25
abbrev s__law_drawn : Stmt := top 27
abbrev s__law_shuffled : Stmt := top 34
abbrev s__law_near : Stmt := top 30
abbrev s__law_pick : Stmt := top 26
abbrev s__law_sides : Stmt := top 28
abbrev s__law_grown : Stmt := top 33
abbrev s__law_moved : Stmt := top 29
abbrev s__law_part : Stmt := top 36
abbrev s__law_two : Stmt := top 37
abbrev s_is_whole : Stmt := top 4
abbrev s_is_count : Stmt := top 5
abbrev s_is_whole_number : Stmt := top 8
abbrev s_is_cell : Stmt := top 9
abbrev s_is_figure : Stmt := top 10
abbrev s_check_figure : Stmt := top 11
abbrev s_halves_in : Stmt := top 12
abbrev s_halves_of : Stmt := top 13
abbrev s_check_two_figures : Stmt := top 15
abbrev s_is_within : Stmt := top 17
abbrev s_is_within_figure : Stmt := top 18
abbrev s_put_together : Stmt := top 16
abbrev s_left_without : Stmt := top 19
abbrev s_taken_away : Stmt := top 20
abbrev s__law_right : Stmt := top 38
abbrev s_law : Stmt := top 39
theorem bt_abs : bootBuiltins "abs" = some (.builtin "abs") := by decide +kernel
theorem bt_all : bootBuiltins "all" = some (.builtin "all") := by decide +kernel
theorem bt_bool : bootBuiltins "bool" = some (.type "bool") := by decide +kernel
theorem bt_dict : bootBuiltins "dict" = some (.type "dict") := by decide +kernel
theorem bt_int : bootBuiltins "int" = some (.type "int") := by decide +kernel
theorem bt_isinstance : bootBuiltins "isinstance" = some (.builtin "isinstance") := by decide +kernel
theorem bt_len : bootBuiltins "len" = some (.builtin "len") := by decide +kernel
theorem bt_list : bootBuiltins "list" = some (.type "list") := by decide +kernel
theorem bt_max : bootBuiltins "max" = some (.builtin "max") := by decide +kernel
theorem bt_range : bootBuiltins "range" = some (.type "range") := by decide +kernel
theorem bt_repr : bootBuiltins "repr" = some (.builtin "repr") := by decide +kernel
theorem bt_sorted : bootBuiltins "sorted" = some (.builtin "sorted") := by decide +kernel
theorem bt_sum : bootBuiltins "sum" = some (.builtin "sum") := by decide +kernel
theorem bt_tuple : bootBuiltins "tuple" = some (.type "tuple") := by decide +kernel
/-- what stands in the module -/
structure World_ (K : PySem.W.Frag) (mg : Str → Option Value) : Prop where
  sys : NoSys K
  f__law_cell : ∃ f fd, mg "_law_cell" = some (.ref f) ∧ FnP K "_law_cell" s__law_cell f fd
  f__law_generator : ∃ f fd, mg "_law_generator" = some (.ref f) ∧ FnP K "_law_generator" s__law_generator f fd
  f__law_halves : ∃ f fd, mg "_law_halves" = some (.ref f) ∧ FnP K "_law_halves" s__law_halves f fd
  f__law_kinds : ∃ f fd, mg "_law_kinds" = some (.ref f) ∧ FnP K "_law_kinds" s__law_kinds f fd
  f__law_put : ∃ f fd, mg "_law_put" = some (.ref f) ∧ FnP K "_law_put" s__law_put f fd
  f__law_hash : ∃ f fd, mg "_law_hash" = some (.ref f) ∧ FnP K "_law_hash" s__law_hash f fd
  f__law_random : ∃ f fd, mg "_law_random" = some (.ref f) ∧ FnP K "_law_random" s__law_random f fd
  f__law_drawn : ∃ f fd, mg "_law_drawn" = some (.ref f) ∧ FnP K "_law_drawn" s__law_drawn f fd
  f__law_shuffled : ∃ f fd, mg "_law_shuffled" = some (.ref f) ∧ FnP K "_law_shuffled" s__law_shuffled f fd
  f__law_near : ∃ f fd, mg "_law_near" = some (.ref f) ∧ FnP K "_law_near" s__law_near f fd
  f__law_pick : ∃ f fd, mg "_law_pick" = some (.ref f) ∧ FnP K "_law_pick" s__law_pick f fd
  f__law_sides : ∃ f fd, mg "_law_sides" = some (.ref f) ∧ FnP K "_law_sides" s__law_sides f fd
  f__law_grown : ∃ f fd, mg "_law_grown" = some (.ref f) ∧ FnP K "_law_grown" s__law_grown f fd
  f__law_moved : ∃ f fd, mg "_law_moved" = some (.ref f) ∧ FnP K "_law_moved" s__law_moved f fd
  f__law_part : ∃ f fd, mg "_law_part" = some (.ref f) ∧ FnP K "_law_part" s__law_part f fd
  f__law_two : ∃ f fd, mg "_law_two" = some (.ref f) ∧ FnP K "_law_two" s__law_two f fd
  f_is_whole : ∃ f fd, mg "is_whole" = some (.ref f) ∧ FnP K "is_whole" s_is_whole f fd
  f_is_count : ∃ f fd, mg "is_count" = some (.ref f) ∧ FnP K "is_count" s_is_count f fd
  f_is_whole_number : ∃ f fd, mg "is_whole_number" = some (.ref f) ∧ FnP K "is_whole_number" s_is_whole_number f fd
  f_is_cell : ∃ f fd, mg "is_cell" = some (.ref f) ∧ FnP K "is_cell" s_is_cell f fd
  f_is_figure : ∃ f fd, mg "is_figure" = some (.ref f) ∧ FnP K "is_figure" s_is_figure f fd
  f_check_figure : ∃ f fd, mg "check_figure" = some (.ref f) ∧ FnP K "check_figure" s_check_figure f fd
  f_halves_in : ∃ f fd, mg "halves_in" = some (.ref f) ∧ FnP K "halves_in" s_halves_in f fd
  f_halves_of : ∃ f fd, mg "halves_of" = some (.ref f) ∧ FnP K "halves_of" s_halves_of f fd
  f_check_two_figures : ∃ f fd, mg "check_two_figures" = some (.ref f) ∧ FnP K "check_two_figures" s_check_two_figures f fd
  f_is_within : ∃ f fd, mg "is_within" = some (.ref f) ∧ FnP K "is_within" s_is_within f fd
  f_is_within_figure : ∃ f fd, mg "is_within_figure" = some (.ref f) ∧ FnP K "is_within_figure" s_is_within_figure f fd
  f_put_together : ∃ f fd, mg "put_together" = some (.ref f) ∧ FnP K "put_together" s_put_together f fd
  f_left_without : ∃ f fd, mg "left_without" = some (.ref f) ∧ FnP K "left_without" s_left_without f fd
  f_taken_away : ∃ f fd, mg "taken_away" = some (.ref f) ∧ FnP K "taken_away" s_taken_away f fd
  f__law_right : ∃ f fd, mg "_law_right" = some (.ref f) ∧ FnP K "_law_right" s__law_right f fd
  f_law : ∃ f fd, mg "law" = some (.ref f) ∧ FnP K "law" s_law f fd
  g_abs : mg "abs" = none
  g_all : mg "all" = none
  g_bool : mg "bool" = none
  g_dict : mg "dict" = none
  g_int : mg "int" = none
  g_isinstance : mg "isinstance" = none
  g_len : mg "len" = none
  g_list : mg "list" = none
  g_max : mg "max" = none
  g_range : mg "range" = none
  g_repr : mg "repr" = none
  g_sorted : mg "sorted" = none
  g_sum : mg "sum" = none
  g_tuple : mg "tuple" = none
  c_WHOLE : ∃ t, mg "WHOLE" = some (.int 4 t)

/-! _law_cell -/
def N__law_cell : List Str := ["script", "index"]
def F__law_cell : SF := seqF (ifS (boolF (opF opLt [.s 1, .e (opF opLen [.s 0])])) (retF (opF opIx [.s 0, .s 1])) (nxF)) (retF (opF opMod [.e (opF opSum [.e (sliceF (varF 0) none (some (cF (.int 1))))]), .e (cF (.int 1000003))]))
def φ__law_cell : Fn := runB 2 0 F__law_cell
theorem sc__law_cell : FnScope N__law_cell ["script", "index"] (defScope s__law_cell) := ⟨rfl, rfl, rfl, by decide +kernel, rfl, by decide +kernel, by decide +kernel⟩
theorem b__law_cell {P : Program} {w : World} {K : PySem.W.Frag} {mg : Str → Option Value} {base : Heap} (W : World_ K mg) {cdv : Value} {A : Around} {outer : List L2Env} {s : Shared} {H : Hp} {vs : List V} {E : XK} {f : Addr} (hr : Room 0 (A.deeper (envOfC "_law_cell" (defScope s__law_cell) s.heap.objs.size f cdv))) (hq : (A.deeper (envOfC "_law_cell" (defScope s__law_cell) s.heap.objs.size f cdv)).guards = some []) :
    SSs ⟨K, vs, H⟩ (cxD P w K mg base N__law_cell "_law_cell" (defScope s__law_cell) f cdv A outer s H E) (defBody s__law_cell) F__law_cell := by
  have hu1 := units1 hr
  have hu64 := hr.units
  have hu65 := units65 hr
  have hu80 := units80 hr
  have nd := sc__law_cell.nd
  exact ss_cons (s_if (et_cmp (by rfl) or_lt (ea_s 1) (ea_e (ee_callB (by rfl) cb_len (by rfl) W.g_len bt_len (eas_cons (ea_s 0) (eas_nil))))) (ss_one (s_ret (ee_ix (by rfl) (ir_ix hu1) (ea_s 0) (ea_s 1)))) (ss_nil)) (ss_one (s_ret (ee_op (by rfl) or_mod (ea_e (ee_callB (by rfl) (cb_sum (by rfl)) (by rfl) W.g_sum bt_sum (eas_cons (ea_e (ee_slice (by rfl) (ee_var 0) (eo_none) (eo_some (ee_int)))) (eas_nil)))) (ea_e (ee_int)))))
theorem d__law_cell {P : Program} {w : World} {K : PySem.W.Frag} {mg : Str → Option Value} {base : Heap} (W : World_ K mg) : Def P w K mg base "_law_cell" s__law_cell ["script", "index"] 1 φ__law_cell := by
  obtain ⟨f, fd, hm, D⟩ := W.f__law_cell
  have h := def_run (P := P) (w := w) (base := base) (k := 0) D hm sc__law_cell (fun _ _ _ _ _ _ us hl => match us, hl with | [_, _], _ => rfl) (b := F__law_cell) fun cdv A outer s H vs E hr hq => b__law_cell W hr hq
  exact h
/-! _law_generator -/
def N__law_generator : List Str := ["script", "index", "seed"]
def F__law_generator : SF := seqF (setF 2 (callF φ__law_cell [.e (varF 0), .e (varF 1)])) (retF (lstF [opF opMod [.e (opF opInt [.e (opF opMax [.e (opF opSub [.s 2, .e (opF opPow [.e (cF (.int 10)), .e (cF (.int 18))])]), .e (cF (.int 0))])]), .e (opF opPow [.e (opF opPow [.e (cF (.int 10)), .e (cF (.int 60))]), .e (cF (.int 10))])], opF opMod [.e (opF opInt [.s 2]), .e (cF (.int 2147483647))], opF opMul [.e (cF (.int 1000)), .s 1]]))
def φ__law_generator : Fn := runB 2 1 F__law_generator
theorem sc__law_generator : FnScope N__law_generator ["script", "index"] (defScope s__law_generator) := ⟨rfl, rfl, rfl, by decide +kernel, rfl, by decide +kernel, by decide +kernel⟩
theorem b__law_generator {P : Program} {w : World} {K : PySem.W.Frag} {mg : Str → Option Value} {base : Heap} (W : World_ K mg) {cdv : Value} {A : Around} {outer : List L2Env} {s : Shared} {H : Hp} {vs : List V} {E : XK} {f : Addr} (hr : Room 1 (A.deeper (envOfC "_law_generator" (defScope s__law_generator) s.heap.objs.size f cdv))) (hq : (A.deeper (envOfC "_law_generator" (defScope s__law_generator) s.heap.objs.size f cdv)).guards = some []) :
    SSs ⟨K, vs, H⟩ (cxD P w K mg base N__law_generator "_law_generator" (defScope s__law_generator) f cdv A outer s H E) (defBody s__law_generator) F__law_generator := by
  have hu1 := units1 hr
  have hu64 := hr.units
  have hu65 := units65 hr
  have hu80 := units80 hr
  have nd := sc__law_generator.nd
  exact ss_cons (s_set 2 nd (ee_call (by rfl) (d__law_cell W) hr hq (by decide) (eas_cons (ea_e (ee_var 0)) (eas_cons (ea_e (ee_var 1)) (eas_nil))) (by rfl))) (ss_one (s_ret (ee_lst (efs_cons (ee_op (by rfl) or_mod (ea_e (ee_callTy (by rfl) ct_int (by rfl) W.g_int bt_int (eas_cons (ea_e (ee_callB (by rfl) (cb_max (by rfl)) (by rfl) W.g_max bt_max (eas_cons (ea_e (ee_op (by rfl) or_sub (ea_s 2) (ea_e (ee_op (by rfl) or_pow (ea_e (ee_int)) (ea_e (ee_int)))))) (eas_cons (ea_e (ee_int)) (eas_nil))))) (eas_nil)))) (ea_e (ee_op (by rfl) or_pow (ea_e (ee_op (by rfl) or_pow (ea_e (ee_int)) (ea_e (ee_int)))) (ea_e (ee_int))))) (efs_cons (ee_op (by rfl) or_mod (ea_e (ee_callTy (by rfl) ct_int (by rfl) W.g_int bt_int (eas_cons (ea_s 2) (eas_nil)))) (ea_e (ee_int))) (efs_cons (ee_op (by rfl) or_mul (ea_e (ee_int)) (ea_s 1)) (efs_nil)))))))
theorem d__law_generator {P : Program} {w : World} {K : PySem.W.Frag} {mg : Str → Option Value} {base : Heap} (W : World_ K mg) : Def P w K mg base "_law_generator" s__law_generator ["script", "index"] 2 φ__law_generator := by
  obtain ⟨f, fd, hm, D⟩ := W.f__law_generator
  have h := def_run (P := P) (w := w) (base := base) (k := 1) D hm sc__law_generator (fun _ _ _ _ _ _ us hl => match us, hl with | [_, _], _ => rfl) (b := F__law_generator) fun cdv A outer s H vs E hr hq => b__law_generator W hr hq
  exact h
/-! _law_halves -/
def N__law_halves : List Str := ["figure", "cell"]
def F__law_halves : SF := retF (opF opSum [.e (lcF [1] (dictS 0) (nameG 1) yesF (ifF (boolF (opF opEqY [.e (opF opIx [.s 0, .s 1]), .e (cF (.int 4))])) (cF (.int 2)) (cF (.int 1))))])
def φ__law_halves : Fn := runB 1 1 F__law_halves
theorem sc__law_halves : FnScope N__law_halves ["figure"] (defScope s__law_halves) := ⟨rfl, rfl, rfl, by decide +kernel, rfl, by decide +kernel, by decide +kernel⟩
theorem b__law_halves {P : Program} {w : World} {K : PySem.W.Frag} {mg : Str → Option Value} {base : Heap} (W : World_ K mg) {cdv : Value} {A : Around} {outer : List L2Env} {s : Shared} {H : Hp} {vs : List V} {E : XK} {f : Addr} (hr : Room 0 (A.deeper (envOfC "_law_halves" (defScope s__law_halves) s.heap.objs.size f cdv))) (hq : (A.deeper (envOfC "_law_halves" (defScope s__law_halves) s.heap.objs.size f cdv)).guards = some []) :
    SSs ⟨K, vs, H⟩ (cxD P w K mg base N__law_halves "_law_halves" (defScope s__law_halves) f cdv A outer s H E) (defBody s__law_halves) F__law_halves := by
  have hu1 := units1 hr
  have hu64 := hr.units
  have hu65 := units65 hr
  have hu80 := units80 hr
  have nd := sc__law_halves.nd
  exact ss_one (s_ret (ee_callB (by rfl) (cb_sum (by rfl)) (by rfl) W.g_sum bt_sum (eas_cons (ea_e (ee_lcD 0 rfl nd (blkOk_by (own := [("cell", 1)]) rfl) (fun _ _ _ _ _ => gw_name 1 nd) (fun _ _ _ _ _ => ets_nil) (fun _ _ _ _ _ => ee_if (et_cmp (by rfl) (or_eqy hu80) (ea_e (ee_ix (by rfl) (ir_ix hu1) (ea_s 0) (ea_s 1))) (ea_e (ee_int))) (ee_int) (ee_int)))) (eas_nil))))
theorem d__law_halves {P : Program} {w : World} {K : PySem.W.Frag} {mg : Str → Option Value} {base : Heap} (W : World_ K mg) : Def P w K mg base "_law_halves" s__law_halves ["figure"] 1 φ__law_halves := by
  obtain ⟨f, fd, hm, D⟩ := W.f__law_halves
  have h := def_run (P := P) (w := w) (base := base) (k := 0) D hm sc__law_halves (fun _ _ _ _ _ _ us hl => match us, hl with | [_], _ => rfl) (b := F__law_halves) fun cdv A outer s H vs E hr hq => b__law_halves W hr hq
  exact h
/-! _law_kinds -/
def N__law_kinds : List Str := ["figure", "other", "found", "cell"]
def B__law_kinds_0 : SF := ifS (orF (boolF (opF opNotIn [.s 3, .s 0])) (andF (boolF (opF opNeY [.e (opF opIx [.s 0, .s 3]), .e (cF (.int 4))])) (boolF (opF opNeY [.e (opF opIx [.s 0, .s 3]), .e (opF opIx [.s 1, .s 3])])))) (retF (cF .none)) (nxF)
def B__law_kinds_1 : SF := ifS (boolF (opF opNotIn [.s 3, .s 1])) (putF 2 (varF 3) (opF opIx [.s 0, .s 3])) (ifS (andF (boolF (opF opEqY [.e (opF opIx [.s 0, .s 3]), .e (cF (.int 4))])) (boolF (opF opNeY [.e (opF opIx [.s 1, .s 3]), .e (cF (.int 4))]))) (putF 2 (varF 3) (opF opMod [.e (opF opInt [.e (opF opAdd [.e (opF opIx [.s 1, .s 3]), .e (cF (.int 2))])]), .e (cF (.int 4))])) (nxF))
def F__law_kinds : SF := seqF (setF 2 (dctF)) (seqF (forF (dictS 1) (nameG 3) (B__law_kinds_0)) (seqF (forF (dictS 0) (nameG 3) (B__law_kinds_1)) (retO 2)))
def φ__law_kinds : Fn := runB 2 2 F__law_kinds
theorem sc__law_kinds : FnScope N__law_kinds ["figure", "other"] (defScope s__law_kinds) := ⟨rfl, rfl, rfl, by decide +kernel, rfl, by decide +kernel, by decide +kernel⟩
theorem b__law_kinds {P : Program} {w : World} {K : PySem.W.Frag} {mg : Str → Option Value} {base : Heap} (W : World_ K mg) {cdv : Value} {A : Around} {outer : List L2Env} {s : Shared} {H : Hp} {vs : List V} {E : XK} {f : Addr} (hr : Room 0 (A.deeper (envOfC "_law_kinds" (defScope s__law_kinds) s.heap.objs.size f cdv))) (hq : (A.deeper (envOfC "_law_kinds" (defScope s__law_kinds) s.heap.objs.size f cdv)).guards = some []) :
    SSs ⟨K, vs, H⟩ (cxD P w K mg base N__law_kinds "_law_kinds" (defScope s__law_kinds) f cdv A outer s H E) (defBody s__law_kinds) F__law_kinds := by
  have hu1 := units1 hr
  have hu64 := hr.units
  have hu65 := units65 hr
  have hu80 := units80 hr
  have nd := sc__law_kinds.nd
  exact ss_cons (s_set 2 nd (ee_dct)) (ss_cons (s_forD 1 PassesOwn.never (g_name 3 nd) (ss_one (s_if (et_w (ew_or (et_cmp (by rfl) (or_notin hu65) (ea_s 3) (ea_s 0)) (ew_or1 (et_w (ew_and (et_cmp (by rfl) (or_ney hu80) (ea_e (ee_ix (by rfl) (ir_ix hu1) (ea_s 0) (ea_s 3))) (ea_e (ee_int))) (ew_and1 (et_cmp (by rfl) (or_ney hu80) (ea_e (ee_ix (by rfl) (ir_ix hu1) (ea_s 0) (ea_s 3))) (ea_e (ee_ix (by rfl) (ir_ix hu1) (ea_s 1) (ea_s 3)))))))))) (ss_one (s_ret (ee_non))) (ss_nil)))) (ss_cons (s_forD 0 PassesOwn.never (g_name 3 nd) (ss_one (s_if (et_cmp (by rfl) (or_notin hu65) (ea_s 3) (ea_s 1)) (ss_one (s_put 2 rfl hu1 (ee_var 3) (ee_ix (by rfl) (ir_ix hu1) (ea_s 0) (ea_s 3)))) (ss_one (s_if (et_w (ew_and (et_cmp (by rfl) (or_eqy hu80) (ea_e (ee_ix (by rfl) (ir_ix hu1) (ea_s 0) (ea_s 3))) (ea_e (ee_int))) (ew_and1 (et_cmp (by rfl) (or_ney hu80) (ea_e (ee_ix (by rfl) (ir_ix hu1) (ea_s 1) (ea_s 3))) (ea_e (ee_int)))))) (ss_one (s_put 2 rfl hu1 (ee_var 3) (ee_op (by rfl) or_mod (ea_e (ee_callTy (by rfl) ct_int (by rfl) W.g_int bt_int (eas_cons (ea_e (ee_op (by rfl) or_add (ea_e (ee_ix (by rfl) (ir_ix hu1) (ea_s 1) (ea_s 3))) (ea_e (ee_int)))) (eas_nil)))) (ea_e (ee_int))))) (ss_nil)))))) (ss_one (s_retO 2))))
theorem d__law_kinds {P : Program} {w : World} {K : PySem.W.Frag} {mg : Str → Option Value} {base : Heap} (W : World_ K mg) : Def P w K mg base "_law_kinds" s__law_kinds ["figure", "other"] 1 φ__law_kinds := by
  obtain ⟨f, fd, hm, D⟩ := W.f__law_kinds
  have h := def_run (P := P) (w := w) (base := base) (k := 0) D hm sc__law_kinds (fun _ _ _ _ _ _ us hl => match us, hl with | [_, _], _ => rfl) (b := F__law_kinds) fun cdv A outer s H vs E hr hq => b__law_kinds W hr hq
  exact h
/-! _law_put -/
def N__law_put : List Str := ["figure", "other", "found", "cell"]
def B__law_put_0 : SF := seqF (ifS (andF (boolF (opF opIn [.s 3, .s 2])) (orF (boolF (opF opEqY [.e (opF opIx [.s 2, .s 3]), .e (cF (.int 4))])) (orF (boolF (opF opEqY [.e (opF opIx [.s 1, .s 3]), .e (cF (.int 4))])) (boolF (opF opNeY [.e (opF opAbs [.e (opF opSub [.e (opF opIx [.s 2, .s 3]), .e (opF opIx [.s 1, .s 3])])]), .e (cF (.int 2))]))))) (retF (cF .none)) (nxF)) (putF 2 (varF 3) (ifF (boolF (opF opIn [.s 3, .s 2])) (cF (.int 4)) (opF opIx [.s 1, .s 3])))
def F__law_put : SF := seqF (setF 2 (opF opDict [.e (listItF (.s 0))])) (seqF (forF (dictS 1) (nameG 3) (B__law_put_0)) (retO 2))
def φ__law_put : Fn := runB 2 2 F__law_put
theorem sc__law_put : FnScope N__law_put ["figure", "other"] (defScope s__law_put) := ⟨rfl, rfl, rfl, by decide +kernel, rfl, by decide +kernel, by decide +kernel⟩
theorem b__law_put {P : Program} {w : World} {K : PySem.W.Frag} {mg : Str → Option Value} {base : Heap} (W : World_ K mg) {cdv : Value} {A : Around} {outer : List L2Env} {s : Shared} {H : Hp} {vs : List V} {E : XK} {f : Addr} (hr : Room 0 (A.deeper (envOfC "_law_put" (defScope s__law_put) s.heap.objs.size f cdv))) (hq : (A.deeper (envOfC "_law_put" (defScope s__law_put) s.heap.objs.size f cdv)).guards = some []) :
    SSs ⟨K, vs, H⟩ (cxD P w K mg base N__law_put "_law_put" (defScope s__law_put) f cdv A outer s H E) (defBody s__law_put) F__law_put := by
  have hu1 := units1 hr
  have hu64 := hr.units
  have hu65 := units65 hr
  have hu80 := units80 hr
  have nd := sc__law_put.nd
  exact ss_cons (s_set 2 nd (ee_callTy (by rfl) (ct_dict hu80 (by rfl)) (by rfl) W.g_dict bt_dict (eas_cons (ea_e (ee_listItems (by rfl) (ea_s 0) (by rfl) W.g_list bt_list)) (eas_nil)))) (ss_cons (s_forD 1 PassesOwn.never (g_name 3 nd) (ss_cons (s_if (et_w (ew_and (et_cmp (by rfl) (or_in hu65) (ea_s 3) (ea_s 2)) (ew_and1 (et_w (ew_or (et_cmp (by rfl) (or_eqy hu80) (ea_e (ee_ix (by rfl) (ir_ix hu1) (ea_s 2) (ea_s 3))) (ea_e (ee_int))) (ew_or (et_cmp (by rfl) (or_eqy hu80) (ea_e (ee_ix (by rfl) (ir_ix hu1) (ea_s 1) (ea_s 3))) (ea_e (ee_int))) (ew_or1 (et_cmp (by rfl) (or_ney hu80) (ea_e (ee_callB (by rfl) cb_abs (by rfl) W.g_abs bt_abs (eas_cons (ea_e (ee_op (by rfl) or_sub (ea_e (ee_ix (by rfl) (ir_ix hu1) (ea_s 2) (ea_s 3))) (ea_e (ee_ix (by rfl) (ir_ix hu1) (ea_s 1) (ea_s 3))))) (eas_nil)))) (ea_e (ee_int)))))))))) (ss_one (s_ret (ee_non))) (ss_nil)) (ss_one (s_put 2 rfl hu1 (ee_var 3) (ee_if (et_cmp (by rfl) (or_in hu65) (ea_s 3) (ea_s 2)) (ee_int) (ee_ix (by rfl) (ir_ix hu1) (ea_s 1) (ea_s 3))))))) (ss_one (s_retO 2)))
theorem d__law_put {P : Program} {w : World} {K : PySem.W.Frag} {mg : Str → Option Value} {base : Heap} (W : World_ K mg) : Def P w K mg base "_law_put" s__law_put ["figure", "other"] 1 φ__law_put := by
  obtain ⟨f, fd, hm, D⟩ := W.f__law_put
  have h := def_run (P := P) (w := w) (base := base) (k := 0) D hm sc__law_put (fun _ _ _ _ _ _ us hl => match us, hl with | [_, _], _ => rfl) (b := F__law_put) fun cdv A outer s H vs E hr hq => b__law_put W hr hq
  exact h
/-! _law_hash -/
def N__law_hash : List Str := ["seed", "index", "mixed"]
def F__law_hash : SF := seqF (setF 2 (opF opMod [.e (opF opInt [.e (opF opAdd [.e (opF opAdd [.e (opF opAdd [.e (opF opMul [.s 0, .e (cF (.int 1140671))]), .e (opF opMul [.e (opF opMul [.e (cF (.int 27644437)), .s 1]), .s 1])]), .e (opF opMul [.e (cF (.int 131)), .s 1])]), .e (cF (.int 19))])]), .e (cF (.int 2147483629))])) (seqF (setF 2 (opF opMod [.e (opF opInt [.e (opF opAdd [.e (opF opAdd [.e (opF opMul [.s 2, .s 2]), .e (opF opMul [.e (cF (.int 62089)), .s 1])]), .e (cF (.int 32416187))])]), .e (cF (.int 2147483587))])) (retF (opF opMod [.e (opF opInt [.e (opF opMul [.s 2, .e (cF (.int 48271))])]), .e (cF (.int 2147483647))])))
def φ__law_hash : Fn := runB 2 1 F__law_hash
theorem sc__law_hash : FnScope N__law_hash ["seed", "index"] (defScope s__law_hash) := ⟨rfl, rfl, rfl, by decide +kernel, rfl, by decide +kernel, by decide +kernel⟩
theorem b__law_hash {P : Program} {w : World} {K : PySem.W.Frag} {mg : Str → Option Value} {base : Heap} (W : World_ K mg) {cdv : Value} {A : Around} {outer : List L2Env} {s : Shared} {H : Hp} {vs : List V} {E : XK} {f : Addr} (hr : Room 0 (A.deeper (envOfC "_law_hash" (defScope s__law_hash) s.heap.objs.size f cdv))) (hq : (A.deeper (envOfC "_law_hash" (defScope s__law_hash) s.heap.objs.size f cdv)).guards = some []) :
    SSs ⟨K, vs, H⟩ (cxD P w K mg base N__law_hash "_law_hash" (defScope s__law_hash) f cdv A outer s H E) (defBody s__law_hash) F__law_hash := by
  have hu1 := units1 hr
  have hu64 := hr.units
  have hu65 := units65 hr
  have hu80 := units80 hr
  have nd := sc__law_hash.nd
  exact ss_cons (s_set 2 nd (ee_op (by rfl) or_mod (ea_e (ee_callTy (by rfl) ct_int (by rfl) W.g_int bt_int (eas_cons (ea_e (ee_op (by rfl) or_add (ea_e (ee_op (by rfl) or_add (ea_e (ee_op (by rfl) or_add (ea_e (ee_op (by rfl) or_mul (ea_s 0) (ea_e (ee_int)))) (ea_e (ee_op (by rfl) or_mul (ea_e (ee_op (by rfl) or_mul (ea_e (ee_int)) (ea_s 1))) (ea_s 1))))) (ea_e (ee_op (by rfl) or_mul (ea_e (ee_int)) (ea_s 1))))) (ea_e (ee_int)))) (eas_nil)))) (ea_e (ee_int)))) (ss_cons (s_set 2 nd (ee_op (by rfl) or_mod (ea_e (ee_callTy (by rfl) ct_int (by rfl) W.g_int bt_int (eas_cons (ea_e (ee_op (by rfl) or_add (ea_e (ee_op (by rfl) or_add (ea_e (ee_op (by rfl) or_mul (ea_s 2) (ea_s 2))) (ea_e (ee_op (by rfl) or_mul (ea_e (ee_int)) (ea_s 1))))) (ea_e (ee_int)))) (eas_nil)))) (ea_e (ee_int)))) (ss_one (s_ret (ee_op (by rfl) or_mod (ea_e (ee_callTy (by rfl) ct_int (by rfl) W.g_int bt_int (eas_cons (ea_e (ee_op (by rfl) or_mul (ea_s 2) (ea_e (ee_int)))) (eas_nil)))) (ea_e (ee_int))))))
theorem d__law_hash {P : Program} {w : World} {K : PySem.W.Frag} {mg : Str → Option Value} {base : Heap} (W : World_ K mg) : Def P w K mg base "_law_hash" s__law_hash ["seed", "index"] 1 φ__law_hash := by
  obtain ⟨f, fd, hm, D⟩ := W.f__law_hash
  have h := def_run (P := P) (w := w) (base := base) (k := 0) D hm sc__law_hash (fun _ _ _ _ _ _ us hl => match us, hl with | [_, _], _ => rfl) (b := F__law_hash) fun cdv A outer s H vs E hr hq => b__law_hash W hr hq
  exact h
/-! _law_random -/
def N__law_random : List Str := ["generator", "bound", "drawn", "turn"]
def B__law_random_0 : SF := seqF (putF 0 (cF (.int 2)) (opF opAdd [.e (opF opIx [.s 0, .e (cF (.int 2))]), .e (cF (.int 1))])) (setF 2 (opF opAdd [.e (opF opMul [.s 2, .e (cF (.int 2147483587))]), .e (callF φ__law_hash [.e (opF opIx [.s 0, .e (cF (.int 1))]), .e (opF opIx [.s 0, .e (cF (.int 2))])])]))
def F__law_random : SF := seqF (ifS (boolF (opF opGt [.e (opF opIx [.s 0, .e (cF (.int 0))]), .e (cF (.int 0))])) (seqF (setF 2 (opF opMod [.e (opF opInt [.e (opF opIx [.s 0, .e (cF (.int 0))])]), .s 1])) (seqF (putF 0 (cF (.int 0)) (opF opFdiv [.e (opF opIx [.s 0, .e (cF (.int 0))]), .s 1])) (retO 2))) (nxF)) (seqF (setF 2 (cF (.int 0))) (seqF (forF (range1I (opF opAdd [.e (cF (.int 1)), .e (opF opFdiv [.e (bitsF (varF 1)), .e (cF (.int 30))])])) (nameG 3) (B__law_random_0)) (retF (opF opMod [.e (opF opInt [.s 2]), .s 1]))))
def φ__law_random : Fn := runB 2 2 F__law_random
theorem sc__law_random : FnScope N__law_random ["generator", "bound"] (defScope s__law_random) := ⟨rfl, rfl, rfl, by decide +kernel, rfl, by decide +kernel, by decide +kernel⟩
theorem b__law_random {P : Program} {w : World} {K : PySem.W.Frag} {mg : Str → Option Value} {base : Heap} (W : World_ K mg) {cdv : Value} {A : Around} {outer : List L2Env} {s : Shared} {H : Hp} {vs : List V} {E : XK} {f : Addr} (hr : Room 1 (A.deeper (envOfC "_law_random" (defScope s__law_random) s.heap.objs.size f cdv))) (hq : (A.deeper (envOfC "_law_random" (defScope s__law_random) s.heap.objs.size f cdv)).guards = some []) :
    SSs ⟨K, vs, H⟩ (cxD P w K mg base N__law_random "_law_random" (defScope s__law_random) f cdv A outer s H E) (defBody s__law_random) F__law_random := by
  have hu1 := units1 hr
  have hu64 := hr.units
  have hu65 := units65 hr
  have hu80 := units80 hr
  have nd := sc__law_random.nd
  exact ss_cons (s_if (et_cmp (by rfl) or_gt (ea_e (ee_ix (by rfl) (ir_ix hu1) (ea_s 0) (ea_e (ee_int)))) (ea_e (ee_int))) (ss_cons (s_set 2 nd (ee_op (by rfl) or_mod (ea_e (ee_callTy (by rfl) ct_int (by rfl) W.g_int bt_int (eas_cons (ea_e (ee_ix (by rfl) (ir_ix hu1) (ea_s 0) (ea_e (ee_int)))) (eas_nil)))) (ea_s 1))) (ss_cons (s_put 0 rfl hu1 (ee_int) (ee_op (by rfl) or_fdiv (ea_e (ee_ix (by rfl) (ir_ix hu1) (ea_s 0) (ea_e (ee_int)))) (ea_s 1))) (ss_one (s_retO 2)))) (ss_nil)) (ss_cons (s_set 2 nd (ee_int)) (ss_cons (s_for PassesOwn.never (ii_range1 (by rfl) W.g_range (ee_op (by rfl) or_add (ea_e (ee_int)) (ea_e (ee_op (by rfl) or_fdiv (ea_e (ee_bits (ee_var 1))) (ea_e (ee_int)))))) (g_name 3 nd) (ss_cons (s_put 0 rfl hu1 (ee_int) (ee_op (by rfl) or_add (ea_e (ee_ix (by rfl) (ir_ix hu1) (ea_s 0) (ea_e (ee_int)))) (ea_e (ee_int)))) (ss_one (s_set 2 nd (ee_op (by rfl) or_add (ea_e (ee_op (by rfl) or_mul (ea_s 2) (ea_e (ee_int)))) (ea_e (ee_call (by rfl) (d__law_hash W) hr hq (by decide) (eas_cons (ea_e (ee_ix (by rfl) (ir_ix hu1) (ea_s 0) (ea_e (ee_int)))) (eas_cons (ea_e (ee_ix (by rfl) (ir_ix hu1) (ea_s 0) (ea_e (ee_int)))) (eas_nil))) (by rfl)))))))) (ss_one (s_ret (ee_op (by rfl) or_mod (ea_e (ee_callTy (by rfl) ct_int (by rfl) W.g_int bt_int (eas_cons (ea_s 2) (eas_nil)))) (ea_s 1))))))
theorem d__law_random {P : Program} {w : World} {K : PySem.W.Frag} {mg : Str → Option Value} {base : Heap} (W : World_ K mg) : Def P w K mg base "_law_random" s__law_random ["generator", "bound"] 2 φ__law_random := by
  obtain ⟨f, fd, hm, D⟩ := W.f__law_random
  have h := def_run (P := P) (w := w) (base := base) (k := 1) D hm sc__law_random (fun _ _ _ _ _ _ us hl => match us, hl with | [_, _], _ => rfl) (b := F__law_random) fun cdv A outer s H vs E hr hq => b__law_random W hr hq
  exact h
/-! _law_drawn -/
def N__law_drawn : List Str := ["generator", "things", "left", "found", "thing"]
def B__law_drawn_0 : SF := dropF (methF 3 "list" omAppend [methF 2 "list" omPopAt [callF φ__law_random [.s 0, .e (opF opLen [.s 2])]]])
def F__law_drawn : SF := seqF (parF 2 3 (opF opList [.s 1]) (lstF [])) (seqF (forF (listI (varF 1)) (nameG 4) (B__law_drawn_0)) (retO 3))
def φ__law_drawn : Fn := runB 2 3 F__law_drawn
theorem sc__law_drawn : FnScope N__law_drawn ["generator", "things"] (defScope s__law_drawn) := ⟨rfl, rfl, rfl, by decide +kernel, rfl, by decide +kernel, by decide +kernel⟩
theorem b__law_drawn {P : Program} {w : World} {K : PySem.W.Frag} {mg : Str → Option Value} {base : Heap} (W : World_ K mg) {cdv : Value} {A : Around} {outer : List L2Env} {s : Shared} {H : Hp} {vs : List V} {E : XK} {f : Addr} (hr : Room 2 (A.deeper (envOfC "_law_drawn" (defScope s__law_drawn) s.heap.objs.size f cdv))) (hq : (A.deeper (envOfC "_law_drawn" (defScope s__law_drawn) s.heap.objs.size f cdv)).guards = some []) :
    SSs ⟨K, vs, H⟩ (cxD P w K mg base N__law_drawn "_law_drawn" (defScope s__law_drawn) f cdv A outer s H E) (defBody s__law_drawn) F__law_drawn := by
  have hu1 := units1 hr
  have hu64 := hr.units
  have hu65 := units65 hr
  have hu80 := units80 hr
  have nd := sc__law_drawn.nd
  exact ss_cons (s_par 2 3 nd (ee_callTy (by rfl) (ct_list (by rfl)) (by rfl) W.g_list bt_list (eas_cons (ea_s 1) (eas_nil))) (ee_lst (efs_nil))) (ss_cons (s_for PassesOwn.never (ii_list (by rfl) (ee_var 1)) (g_name 4 nd) (ss_one (s_expr (ee_meth 3 rfl PySem.F.plainAttrs_list PySem.F.slot_list_append PySem.F.type_list_append mo_append (efs_cons (ee_meth 2 rfl PySem.F.plainAttrs_list PySem.F.slot_list_pop PySem.F.type_list_pop mo_popAt (efs_cons (ee_call (by rfl) (d__law_random W) hr hq (by decide) (eas_cons (ea_s 0) (eas_cons (ea_e (ee_callB (by rfl) cb_len (by rfl) W.g_len bt_len (eas_cons (ea_s 2) (eas_nil)))) (eas_nil))) (by rfl)) (efs_nil))) (efs_nil)))))) (ss_one (s_retO 3)))
theorem d__law_drawn {P : Program} {w : World} {K : PySem.W.Frag} {mg : Str → Option Value} {base : Heap} (W : World_ K mg) : Def P w K mg base "_law_drawn" s__law_drawn ["generator", "things"] 3 φ__law_drawn := by
  obtain ⟨f, fd, hm, D⟩ := W.f__law_drawn
  have h := def_run (P := P) (w := w) (base := base) (k := 2) D hm sc__law_drawn (fun _ _ _ _ _ _ us hl => match us, hl with | [_, _], _ => rfl) (b := F__law_drawn) fun cdv A outer s H vs E hr hq => b__law_drawn W hr hq
  exact h
/-! _law_shuffled -/
def N__law_shuffled : List Str := ["generator", "figure"]
def F__law_shuffled : SF := retF (opF opDict [.e (callF φ__law_drawn [.s 0, .e (opF opSorted [.e (listItF (.s 1))])])])
def φ__law_shuffled : Fn := runB 2 0 F__law_shuffled
theorem sc__law_shuffled : FnScope N__law_shuffled ["generator", "figure"] (defScope s__law_shuffled) := ⟨rfl, rfl, rfl, by decide +kernel, rfl, by decide +kernel, by decide +kernel⟩
theorem b__law_shuffled {P : Program} {w : World} {K : PySem.W.Frag} {mg : Str → Option Value} {base : Heap} (W : World_ K mg) {cdv : Value} {A : Around} {outer : List L2Env} {s : Shared} {H : Hp} {vs : List V} {E : XK} {f : Addr} (hr : Room 3 (A.deeper (envOfC "_law_shuffled" (defScope s__law_shuffled) s.heap.objs.size f cdv))) (hq : (A.deeper (envOfC "_law_shuffled" (defScope s__law_shuffled) s.heap.objs.size f cdv)).guards = some []) :
    SSs ⟨K, vs, H⟩ (cxD P w K mg base N__law_shuffled "_law_shuffled" (defScope s__law_shuffled) f cdv A outer s H E) (defBody s__law_shuffled) F__law_shuffled := by
  have hu1 := units1 hr
  have hu64 := hr.units
  have hu65 := units65 hr
  have hu80 := units80 hr
  have nd := sc__law_shuffled.nd
  exact ss_one (s_ret (ee_callTy (by rfl) (ct_dict hu80 (by rfl)) (by rfl) W.g_dict bt_dict (eas_cons (ea_e (ee_call (by rfl) (d__law_drawn W) hr hq (by decide) (eas_cons (ea_s 0) (eas_cons (ea_e (ee_callB (by rfl) (cb_sorted hu80) (by rfl) W.g_sorted bt_sorted (eas_cons (ea_e (ee_listItems (by rfl) (ea_s 1) (by rfl) W.g_list bt_list)) (eas_nil)))) (eas_nil))) (by rfl))) (eas_nil))))
theorem d__law_shuffled {P : Program} {w : World} {K : PySem.W.Frag} {mg : Str → Option Value} {base : Heap} (W : World_ K mg) : Def P w K mg base "_law_shuffled" s__law_shuffled ["generator", "figure"] 4 φ__law_shuffled := by
  obtain ⟨f, fd, hm, D⟩ := W.f__law_shuffled
  have h := def_run (P := P) (w := w) (base := base) (k := 3) D hm sc__law_shuffled (fun _ _ _ _ _ _ us hl => match us, hl with | [_, _], _ => rfl) (b := F__law_shuffled) fun cdv A outer s H vs E hr hq => b__law_shuffled W hr hq
  exact h
/-! _law_near -/
def N__law_near : List Str := ["row", "column", "side"]
def F__law_near : SF := retF (tupF [opF opAdd [.s 0, .e (opF opIx [.e (lstF [opF opSub [.e (cF (.int 0)), .e (cF (.int 1))], cF (.int 0), cF (.int 1), cF (.int 0)]), .s 2])], opF opAdd [.s 1, .e (opF opIx [.e (lstF [cF (.int 0), cF (.int 1), cF (.int 0), opF opSub [.e (cF (.int 0)), .e (cF (.int 1))]]), .s 2])]])
def φ__law_near : Fn := runB 3 0 F__law_near
theorem sc__law_near : FnScope N__law_near ["row", "column", "side"] (defScope s__law_near) := ⟨rfl, rfl, rfl, by decide +kernel, rfl, by decide +kernel, by decide +kernel⟩
theorem b__law_near {P : Program} {w : World} {K : PySem.W.Frag} {mg : Str → Option Value} {base : Heap} (W : World_ K mg) {cdv : Value} {A : Around} {outer : List L2Env} {s : Shared} {H : Hp} {vs : List V} {E : XK} {f : Addr} (hr : Room 0 (A.deeper (envOfC "_law_near" (defScope s__law_near) s.heap.objs.size f cdv))) (hq : (A.deeper (envOfC "_law_near" (defScope s__law_near) s.heap.objs.size f cdv)).guards = some []) :
    SSs ⟨K, vs, H⟩ (cxD P w K mg base N__law_near "_law_near" (defScope s__law_near) f cdv A outer s H E) (defBody s__law_near) F__law_near := by
  have hu1 := units1 hr
  have hu64 := hr.units
  have hu65 := units65 hr
  have hu80 := units80 hr
  have nd := sc__law_near.nd
  exact ss_one (s_ret (ee_tup (efs_cons (ee_op (by rfl) or_add (ea_s 0) (ea_e (ee_ix (by rfl) (ir_ix hu1) (ea_e (ee_lst (efs_cons (ee_op (by rfl) or_sub (ea_e (ee_int)) (ea_e (ee_int))) (efs_cons (ee_int) (efs_cons (ee_int) (efs_cons (ee_int) (efs_nil))))))) (ea_s 2)))) (efs_cons (ee_op (by rfl) or_add (ea_s 1) (ea_e (ee_ix (by rfl) (ir_ix hu1) (ea_e (ee_lst (efs_cons (ee_int) (efs_cons (ee_int) (efs_cons (ee_int) (efs_cons (ee_op (by rfl) or_sub (ea_e (ee_int)) (ea_e (ee_int))) (efs_nil))))))) (ea_s 2)))) (efs_nil)))))
theorem d__law_near {P : Program} {w : World} {K : PySem.W.Frag} {mg : Str → Option Value} {base : Heap} (W : World_ K mg) : Def P w K mg base "_law_near" s__law_near ["row", "column", "side"] 1 φ__law_near := by
  obtain ⟨f, fd, hm, D⟩ := W.f__law_near
  have h := def_run (P := P) (w := w) (base := base) (k := 0) D hm sc__law_near (fun _ _ _ _ _ _ us hl => match us, hl with | [_, _, _], _ => rfl) (b := F__law_near) fun cdv A outer s H vs E hr hq => b__law_near W hr hq
  exact h
/-! _law_pick -/
def N__law_pick : List Str := ["generator", "things"]
def F__law_pick : SF := retF (opF opIx [.s 1, .e (callF φ__law_random [.s 0, .e (opF opLen [.s 1])])])
def φ__law_pick : Fn := runB 2 0 F__law_pick
theorem sc__law_pick : FnScope N__law_pick ["generator", "things"] (defScope s__law_pick) := ⟨rfl, rfl, rfl, by decide +kernel, rfl, by decide +kernel, by decide +kernel⟩
theorem b__law_pick {P : Program} {w : World} {K : PySem.W.Frag} {mg : Str → Option Value} {base : Heap} (W : World_ K mg) {cdv : Value} {A : Around} {outer : List L2Env} {s : Shared} {H : Hp} {vs : List V} {E : XK} {f : Addr} (hr : Room 2 (A.deeper (envOfC "_law_pick" (defScope s__law_pick) s.heap.objs.size f cdv))) (hq : (A.deeper (envOfC "_law_pick" (defScope s__law_pick) s.heap.objs.size f cdv)).guards = some []) :
    SSs ⟨K, vs, H⟩ (cxD P w K mg base N__law_pick "_law_pick" (defScope s__law_pick) f cdv A outer s H E) (defBody s__law_pick) F__law_pick := by
  have hu1 := units1 hr
  have hu64 := hr.units
  have hu65 := units65 hr
  have hu80 := units80 hr
  have nd := sc__law_pick.nd
  exact ss_one (s_ret (ee_ix (by rfl) (ir_ix hu1) (ea_s 1) (ea_e (ee_call (by rfl) (d__law_random W) hr hq (by decide) (eas_cons (ea_s 0) (eas_cons (ea_e (ee_callB (by rfl) cb_len (by rfl) W.g_len bt_len (eas_cons (ea_s 1) (eas_nil)))) (eas_nil))) (by rfl)))))
theorem d__law_pick {P : Program} {w : World} {K : PySem.W.Frag} {mg : Str → Option Value} {base : Heap} (W : World_ K mg) : Def P w K mg base "_law_pick" s__law_pick ["generator", "things"] 3 φ__law_pick := by
  obtain ⟨f, fd, hm, D⟩ := W.f__law_pick
  have h := def_run (P := P) (w := w) (base := base) (k := 2) D hm sc__law_pick (fun _ _ _ _ _ _ us hl => match us, hl with | [_, _], _ => rfl) (b := F__law_pick) fun cdv A outer s H vs E hr hq => b__law_pick W hr hq
  exact h
/-! _law_sides -/
def N__law_sides : List Str := ["what"]
def F__law_sides : SF := retF (opF opIx [.e (lstF [tupF [cF (.int 0), cF (.int 3)], tupF [cF (.int 0), cF (.int 1)], tupF [cF (.int 1), cF (.int 2)], tupF [cF (.int 2), cF (.int 3)], tupF [cF (.int 0), cF (.int 1), cF (.int 2), cF (.int 3)]]), .s 0])
def φ__law_sides : Fn := runB 1 0 F__law_sides
theorem sc__law_sides : FnScope N__law_sides ["what"] (defScope s__law_sides) := ⟨rfl, rfl, rfl, by decide +kernel, rfl, by decide +kernel, by decide +kernel⟩
theorem b__law_sides {P : Program} {w : World} {K : PySem.W.Frag} {mg : Str → Option Value} {base : Heap} (W : World_ K mg) {cdv : Value} {A : Around} {outer : List L2Env} {s : Shared} {H : Hp} {vs : List V} {E : XK} {f : Addr} (hr : Room 0 (A.deeper (envOfC "_law_sides" (defScope s__law_sides) s.heap.objs.size f cdv))) (hq : (A.deeper (envOfC "_law_sides" (defScope s__law_sides) s.heap.objs.size f cdv)).guards = some []) :
    SSs ⟨K, vs, H⟩ (cxD P w K mg base N__law_sides "_law_sides" (defScope s__law_sides) f cdv A outer s H E) (defBody s__law_sides) F__law_sides := by
  have hu1 := units1 hr
  have hu64 := hr.units
  have hu65 := units65 hr
  have hu80 := units80 hr
  have nd := sc__law_sides.nd
  exact ss_one (s_ret (ee_ix (by rfl) (ir_ix hu1) (ea_e (ee_lst (efs_cons (ee_tup (efs_cons (ee_int) (efs_cons (ee_int) (efs_nil)))) (efs_cons (ee_tup (efs_cons (ee_int) (efs_cons (ee_int) (efs_nil)))) (efs_cons (ee_tup (efs_cons (ee_int) (efs_cons (ee_int) (efs_nil)))) (efs_cons (ee_tup (efs_cons (ee_int) (efs_cons (ee_int) (efs_nil)))) (efs_cons (ee_tup (efs_cons (ee_int) (efs_cons (ee_int) (efs_cons (ee_int) (efs_cons (ee_int) (efs_nil)))))) (efs_nil)))))))) (ea_s 0)))
theorem d__law_sides {P : Program} {w : World} {K : PySem.W.Frag} {mg : Str → Option Value} {base : Heap} (W : World_ K mg) : Def P w K mg base "_law_sides" s__law_sides ["what"] 1 φ__law_sides := by
  obtain ⟨f, fd, hm, D⟩ := W.f__law_sides
  have h := def_run (P := P) (w := w) (base := base) (k := 0) D hm sc__law_sides (fun _ _ _ _ _ _ us hl => match us, hl with | [_], _ => rfl) (b := F__law_sides) fun cdv A outer s H vs E hr hq => b__law_sides W hr hq
  exact h
/-! _law_grown -/
def N__law_grown : List Str := ["generator", "size", "wide", "figure", "turn", "cell", "side", "other", "what", "corner"]
def B__law_grown_0 : SF := ifS (boolF (opF opLt [.e (callRF φ__law_halves [3] [.s 3]), .s 1])) (seqF (setF 5 (callF φ__law_pick [.s 0, .e (opF opSorted [.e (opF opList [.s 3])])])) (ifS (andF (boolF (opF opNeY [.e (opF opIx [.s 3, .s 5]), .e (cF (.int 4))])) (boolF (opF opEqY [.e (callF φ__law_random [.s 0, .e (cF (.int 3))]), .e (cF (.int 0))]))) (putF 3 (varF 5) (cF (.int 4))) (seqF (setF 6 (callF φ__law_pick [.s 0, .e (opF opList [.e (callF φ__law_sides [.e (opF opIx [.s 3, .s 5])])])])) (seqF (setF 7 (callF φ__law_near [.e (opF opIx [.s 5, .e (cF (.int 0))]), .e (opF opIx [.s 5, .e (cF (.int 1))]), .e (varF 6)])) (seqF (setF 8 (callF φ__law_pick [.s 0, .e (lcF [9] (range1I (cF (.int 4))) (nameG 9) (boolF (opF opIn [.e (opF opMod [.e (opF opInt [.e (opF opAdd [.s 6, .e (cF (.int 2))])]), .e (cF (.int 4))]), .e (callF φ__law_sides [.e (varF 9)])])) (varF 9))])) (ifS (boolF (opF opNotIn [.s 7, .s 3])) (putF 3 (varF 7) (ifF (andF (boolF (opF opEqY [.e (callF φ__law_random [.s 0, .e (cF (.int 3))]), .e (cF (.int 0))])) (boolF (opF opLe [.e (opF opAdd [.e (callRF φ__law_halves [3] [.s 3]), .e (cF (.int 2))]), .s 1]))) (cF (.int 4)) (varF 8))) (nxF))))))) (nxF)
def F__law_grown : SF := seqF (setF 3 (ddF true [(tupF [callF φ__law_random [.s 0, .e (varF 2)], callF φ__law_random [.s 0, .e (varF 2)]], callF φ__law_random [.s 0, .e (cF (.int 4))])])) (seqF (forF (range1I (opF opMul [.e (cF (.int 40)), .s 1])) (nameG 4) (B__law_grown_0)) (retO 3))
def φ__law_grown : Fn := runB 3 7 F__law_grown
theorem sc__law_grown : FnScope N__law_grown ["generator", "size", "wide"] (defScope s__law_grown) := ⟨rfl, rfl, rfl, by decide +kernel, rfl, by decide +kernel, by decide +kernel⟩
theorem b__law_grown {P : Program} {w : World} {K : PySem.W.Frag} {mg : Str → Option Value} {base : Heap} (W : World_ K mg) {cdv : Value} {A : Around} {outer : List L2Env} {s : Shared} {H : Hp} {vs : List V} {E : XK} {f : Addr} (hr : Room 3 (A.deeper (envOfC "_law_grown" (defScope s__law_grown) s.heap.objs.size f cdv))) (hq : (A.deeper (envOfC "_law_grown" (defScope s__law_grown) s.heap.objs.size f cdv)).guards = some []) :
    SSs ⟨K, vs, H⟩ (cxD P w K mg base N__law_grown "_law_grown" (defScope s__law_grown) f cdv A outer s H E) (defBody s__law_grown) F__law_grown := by
  have hu1 := units1 hr
  have hu64 := hr.units
  have hu65 := units65 hr
  have hu80 := units80 hr
  have nd := sc__law_grown.nd
  exact ss_cons (s_set 3 nd (ee_dd true hu1 (epp_cons (ee_tup (efs_cons (ee_call (by rfl) (d__law_random W) hr hq (by decide) (eas_cons (ea_s 0) (eas_cons (ea_e (ee_var 2)) (eas_nil))) (by rfl)) (efs_cons (ee_call (by rfl) (d__law_random W) hr hq (by decide) (eas_cons (ea_s 0) (eas_cons (ea_e (ee_var 2)) (eas_nil))) (by rfl)) (efs_nil)))) (ee_call (by rfl) (d__law_random W) hr hq (by decide) (eas_cons (ea_s 0) (eas_cons (ea_e (ee_int)) (eas_nil))) (by rfl)) (epp_nil)))) (ss_cons (s_for PassesOwn.never (ii_range1 (by rfl) W.g_range (ee_op (by rfl) or_mul (ea_e (ee_int)) (ea_s 1))) (g_name 4 nd) (ss_one (s_if (et_cmp (by rfl) or_lt (ea_e (ee_callR [3] (by rfl) (d__law_halves W) hr hq (by decide) (eas_cons (ea_s 3) (eas_nil)) (by rfl))) (ea_s 1)) (ss_cons (s_set 5 nd (ee_call (by rfl) (d__law_pick W) hr hq (by decide) (eas_cons (ea_s 0) (eas_cons (ea_e (ee_callB (by rfl) (cb_sorted hu80) (by rfl) W.g_sorted bt_sorted (eas_cons (ea_e (ee_callTy (by rfl) (ct_list (by rfl)) (by rfl) W.g_list bt_list (eas_cons (ea_s 3) (eas_nil)))) (eas_nil)))) (eas_nil))) (by rfl))) (ss_one (s_if (et_w (ew_and (et_cmp (by rfl) (or_ney hu80) (ea_e (ee_ix (by rfl) (ir_ix hu1) (ea_s 3) (ea_s 5))) (ea_e (ee_int))) (ew_and1 (et_cmp (by rfl) (or_eqy hu80) (ea_e (ee_call (by rfl) (d__law_random W) hr hq (by decide) (eas_cons (ea_s 0) (eas_cons (ea_e (ee_int)) (eas_nil))) (by rfl))) (ea_e (ee_int)))))) (ss_one (s_put 3 rfl hu1 (ee_var 5) (ee_int))) (ss_cons (s_set 6 nd (ee_call (by rfl) (d__law_pick W) hr hq (by decide) (eas_cons (ea_s 0) (eas_cons (ea_e (ee_callTy (by rfl) (ct_list (by rfl)) (by rfl) W.g_list bt_list (eas_cons (ea_e (ee_call (by rfl) (d__law_sides W) hr hq (by decide) (eas_cons (ea_e (ee_ix (by rfl) (ir_ix hu1) (ea_s 3) (ea_s 5))) (eas_nil)) (by rfl))) (eas_nil)))) (eas_nil))) (by rfl))) (ss_cons (s_set 7 nd (ee_call (by rfl) (d__law_near W) hr hq (by decide) (eas_cons (ea_e (ee_ix (by rfl) (ir_ix hu1) (ea_s 5) (ea_e (ee_int)))) (eas_cons (ea_e (ee_ix (by rfl) (ir_ix hu1) (ea_s 5) (ea_e (ee_int)))) (eas_cons (ea_e (ee_var 6)) (eas_nil)))) (by rfl))) (ss_cons (s_set 8 nd (ee_call (by rfl) (d__law_pick W) hr hq (by decide) (eas_cons (ea_s 0) (eas_cons (ea_e (ee_lc rfl nd (ii_range1 (by rfl) W.g_range (ee_int)) (blkOk_by (own := [("corner", 9)]) rfl) (fun _ _ _ _ _ => gw_name 9 nd) (fun _ _ _ _ _ => ets_one (et_cmp (by rfl) (or_in hu65) (ea_e (ee_op (by rfl) or_mod (ea_e (ee_callTy (by rfl) ct_int (by rfl) W.g_int bt_int (eas_cons (ea_e (ee_op (by rfl) or_add (ea_s 6) (ea_e (ee_int)))) (eas_nil)))) (ea_e (ee_int)))) (ea_e (ee_call (by rfl) (d__law_sides W) hr hq (by decide) (eas_cons (ea_e (ee_var 9)) (eas_nil)) (by rfl))))) (fun _ _ _ _ _ => ee_var 9))) (eas_nil))) (by rfl))) (ss_one (s_if (et_cmp (by rfl) (or_notin hu65) (ea_s 7) (ea_s 3)) (ss_one (s_put 3 rfl hu1 (ee_var 7) (ee_if (et_w (ew_and (et_cmp (by rfl) (or_eqy hu80) (ea_e (ee_call (by rfl) (d__law_random W) hr hq (by decide) (eas_cons (ea_s 0) (eas_cons (ea_e (ee_int)) (eas_nil))) (by rfl))) (ea_e (ee_int))) (ew_and1 (et_cmp (by rfl) or_le (ea_e (ee_op (by rfl) or_add (ea_e (ee_callR [3] (by rfl) (d__law_halves W) hr hq (by decide) (eas_cons (ea_s 3) (eas_nil)) (by rfl))) (ea_e (ee_int)))) (ea_s 1))))) (ee_int) (ee_var 8)))) (ss_nil))))))))) (ss_nil)))) (ss_one (s_retO 3)))
theorem d__law_grown {P : Program} {w : World} {K : PySem.W.Frag} {mg : Str → Option Value} {base : Heap} (W : World_ K mg) : Def P w K mg base "_law_grown" s__law_grown ["generator", "size", "wide"] 4 φ__law_grown := by
  obtain ⟨f, fd, hm, D⟩ := W.f__law_grown
  have h := def_run (P := P) (w := w) (base := base) (k := 3) D hm sc__law_grown (fun _ _ _ _ _ _ us hl => match us, hl with | [_, _, _], _ => rfl) (b := F__law_grown) fun cdv A outer s H vs E hr hq => b__law_grown W hr hq
  exact h
/-! _law_moved -/
def N__law_moved : List Str := ["figure", "down", "right", "row", "column"]
def F__law_moved : SF := retF (opF opDict [.e (lcF [3, 4] (dictS 0) (tupG 2 (consG (nameG 3) (consG (nameG 4) (nilG)))) yesF (tupF [tupF [opF opAdd [.s 3, .s 1], opF opAdd [.s 4, .s 2]], opF opIx [.s 0, .e (tupF [varF 3, varF 4])]]))])
def φ__law_moved : Fn := runB 3 2 F__law_moved
theorem sc__law_moved : FnScope N__law_moved ["figure", "down", "right"] (defScope s__law_moved) := ⟨rfl, rfl, rfl, by decide +kernel, rfl, by decide +kernel, by decide +kernel⟩
theorem b__law_moved {P : Program} {w : World} {K : PySem.W.Frag} {mg : Str → Option Value} {base : Heap} (W : World_ K mg) {cdv : Value} {A : Around} {outer : List L2Env} {s : Shared} {H : Hp} {vs : List V} {E : XK} {f : Addr} (hr : Room 0 (A.deeper (envOfC "_law_moved" (defScope s__law_moved) s.heap.objs.size f cdv))) (hq : (A.deeper (envOfC "_law_moved" (defScope s__law_moved) s.heap.objs.size f cdv)).guards = some []) :
    SSs ⟨K, vs, H⟩ (cxD P w K mg base N__law_moved "_law_moved" (defScope s__law_moved) f cdv A outer s H E) (defBody s__law_moved) F__law_moved := by
  have hu1 := units1 hr
  have hu64 := hr.units
  have hu65 := units65 hr
  have hu80 := units80 hr
  have nd := sc__law_moved.nd
  exact ss_one (s_ret (ee_callTy (by rfl) (ct_dict hu80 (by rfl)) (by rfl) W.g_dict bt_dict (eas_cons (ea_e (ee_lcD 0 rfl nd (blkOk_by (own := [("row", 3), ("column", 4)]) rfl) (fun _ _ _ _ _ => gw_tup (by rfl) (gws_cons (gw_name 3 nd) (gws_cons (gw_name 4 nd) (gws_nil)))) (fun _ _ _ _ _ => ets_nil) (fun _ _ _ _ _ => ee_tup (efs_cons (ee_tup (efs_cons (ee_op (by rfl) or_add (ea_s 3) (ea_s 1)) (efs_cons (ee_op (by rfl) or_add (ea_s 4) (ea_s 2)) (efs_nil)))) (efs_cons (ee_ix (by rfl) (ir_ix hu1) (ea_s 0) (ea_e (ee_tup (efs_cons (ee_var 3) (efs_cons (ee_var 4) (efs_nil)))))) (efs_nil)))))) (eas_nil))))
theorem d__law_moved {P : Program} {w : World} {K : PySem.W.Frag} {mg : Str → Option Value} {base : Heap} (W : World_ K mg) : Def P w K mg base "_law_moved" s__law_moved ["figure", "down", "right"] 1 φ__law_moved := by
  obtain ⟨f, fd, hm, D⟩ := W.f__law_moved
  have h := def_run (P := P) (w := w) (base := base) (k := 0) D hm sc__law_moved (fun _ _ _ _ _ _ us hl => match us, hl with | [_, _, _], _ => rfl) (b := F__law_moved) fun cdv A outer s H vs E hr hq => b__law_moved W hr hq
  exact h
/-! _law_part -/
def N__law_part : List Str := ["generator", "figure", "found", "cell"]
def B__law_part_0 : SF := putF 2 (varF 3) (ifF (andF (boolF (opF opEqY [.e (opF opIx [.s 1, .s 3]), .e (cF (.int 4))])) (boolF (opF opEqY [.e (callF φ__law_random [.s 0, .e (cF (.int 2))]), .e (cF (.int 0))]))) (callF φ__law_random [.s 0, .e (cF (.int 5))]) (opF opIx [.s 1, .s 3]))
def F__law_part : SF := seqF (setF 2 (dctF)) (seqF (forF (listI (sliceF (callF φ__law_drawn [.s 0, .e (opF opSorted [.e (opF opList [.s 1])])]) none (some (opF opAdd [.e (cF (.int 1)), .e (callF φ__law_random [.s 0, .e (opF opLen [.s 1])])])))) (nameG 3) (B__law_part_0)) (retO 2))
def φ__law_part : Fn := runB 2 2 F__law_part
theorem sc__law_part : FnScope N__law_part ["generator", "figure"] (defScope s__law_part) := ⟨rfl, rfl, rfl, by decide +kernel, rfl, by decide +kernel, by decide +kernel⟩
theorem b__law_part {P : Program} {w : World} {K : PySem.W.Frag} {mg : Str → Option Value} {base : Heap} (W : World_ K mg) {cdv : Value} {A : Around} {outer : List L2Env} {s : Shared} {H : Hp} {vs : List V} {E : XK} {f : Addr} (hr : Room 3 (A.deeper (envOfC "_law_part" (defScope s__law_part) s.heap.objs.size f cdv))) (hq : (A.deeper (envOfC "_law_part" (defScope s__law_part) s.heap.objs.size f cdv)).guards = some []) :
    SSs ⟨K, vs, H⟩ (cxD P w K mg base N__law_part "_law_part" (defScope s__law_part) f cdv A outer s H E) (defBody s__law_part) F__law_part := by
  have hu1 := units1 hr
  have hu64 := hr.units
  have hu65 := units65 hr
  have hu80 := units80 hr
  have nd := sc__law_part.nd
  exact ss_cons (s_set 2 nd (ee_dct)) (ss_cons (s_for PassesOwn.never (ii_list (by rfl) (ee_slice (by rfl) (ee_call (by rfl) (d__law_drawn W) hr hq (by decide) (eas_cons (ea_s 0) (eas_cons (ea_e (ee_callB (by rfl) (cb_sorted hu80) (by rfl) W.g_sorted bt_sorted (eas_cons (ea_e (ee_callTy (by rfl) (ct_list (by rfl)) (by rfl) W.g_list bt_list (eas_cons (ea_s 1) (eas_nil)))) (eas_nil)))) (eas_nil))) (by rfl)) (eo_none) (eo_some (ee_op (by rfl) or_add (ea_e (ee_int)) (ea_e (ee_call (by rfl) (d__law_random W) hr hq (by decide) (eas_cons (ea_s 0) (eas_cons (ea_e (ee_callB (by rfl) cb_len (by rfl) W.g_len bt_len (eas_cons (ea_s 1) (eas_nil)))) (eas_nil))) (by rfl))))))) (g_name 3 nd) (ss_one (s_put 2 rfl hu1 (ee_var 3) (ee_if (et_w (ew_and (et_cmp (by rfl) (or_eqy hu80) (ea_e (ee_ix (by rfl) (ir_ix hu1) (ea_s 1) (ea_s 3))) (ea_e (ee_int))) (ew_and1 (et_cmp (by rfl) (or_eqy hu80) (ea_e (ee_call (by rfl) (d__law_random W) hr hq (by decide) (eas_cons (ea_s 0) (eas_cons (ea_e (ee_int)) (eas_nil))) (by rfl))) (ea_e (ee_int)))))) (ee_call (by rfl) (d__law_random W) hr hq (by decide) (eas_cons (ea_s 0) (eas_cons (ea_e (ee_int)) (eas_nil))) (by rfl)) (ee_ix (by rfl) (ir_ix hu1) (ea_s 1) (ea_s 3)))))) (ss_one (s_retO 2)))
theorem d__law_part {P : Program} {w : World} {K : PySem.W.Frag} {mg : Str → Option Value} {base : Heap} (W : World_ K mg) : Def P w K mg base "_law_part" s__law_part ["generator", "figure"] 4 φ__law_part := by
  obtain ⟨f, fd, hm, D⟩ := W.f__law_part
  have h := def_run (P := P) (w := w) (base := base) (k := 3) D hm sc__law_part (fun _ _ _ _ _ _ us hl => match us, hl with | [_, _], _ => rfl) (b := F__law_part) fun cdv A outer s H vs E hr hq => b__law_part W hr hq
  exact h
/-! _law_two -/
def N__law_two : List Str := ["generator", "size", "far", "figure", "rest", "way", "other", "cell"]
def F__law_two : SF := seqF (setF 3 (callF φ__law_moved [.e (callF φ__law_grown [.s 0, .e (varF 1), .e (cF (.int 3))]), .e (opF opSub [.e (callF φ__law_random [.s 0, .e (varF 2)]), .e (opF opFdiv [.s 2, .e (cF (.int 2))])]), .e (opF opSub [.e (callF φ__law_random [.s 0, .e (varF 2)]), .e (opF opFdiv [.s 2, .e (cF (.int 2))])])])) (seqF (setF 4 (callF φ__law_kinds [.e (varF 3), .e (callF φ__law_part [.s 0, .e (varF 3)])])) (seqF (setF 5 (callF φ__law_random [.s 0, .e (cF (.int 5))])) (seqF (ifS (orF (boolF (opF opEqY [.s 5, .e (cF (.int 0))])) (orF (boolF (opF opIs [.s 4, .e (cF .none)])) (boolF (opF opEqY [.s 4, .e (dctF)])))) (retF (tupF [varF 3, callF φ__law_moved [.e (callF φ__law_grown [.s 0, .e (cF (.int 6)), .e (cF (.int 2))]), .e (opF opSub [.e (callF φ__law_random [.s 0, .e (varF 2)]), .e (opF opFdiv [.s 2, .e (cF (.int 2))])]), .e (opF opSub [.e (callF φ__law_random [.s 0, .e (varF 2)]), .e (opF opFdiv [.s 2, .e (cF (.int 2))])])]])) (nxF)) (seqF (ifS (boolF (opF opEqY [.s 5, .e (cF (.int 1))])) (retF (tupF [varF 3, callF φ__law_part [.s 0, .e (varF 3)]])) (nxF)) (seqF (ifS (boolF (opF opEqY [.s 5, .e (cF (.int 2))])) (retF (tupF [varF 4, callF φ__law_kinds [.e (varF 3), .e (varF 4)]])) (nxF)) (seqF (setF 6 (ifF (boolF (opF opEqY [.s 5, .e (cF (.int 3))])) (callF φ__law_moved [.e (varF 3), .e (callF φ__law_random [.s 0, .e (cF (.int 3))]), .e (callF φ__law_random [.s 0, .e (cF (.int 3))])]) (opF opDict [.e (lcF [7] (dictS 3) (nameG 7) yesF (tupF [varF 7, ifF (boolF (opF opNeY [.e (opF opIx [.s 3, .s 7]), .e (cF (.int 4))])) (opF opMod [.e (opF opInt [.e (opF opAdd [.e (opF opIx [.s 3, .s 7]), .e (cF (.int 2))])]), .e (cF (.int 4))]) (cF (.int 4))]))]))) (retF (tupF [varF 3, varF 6]))))))))
def φ__law_two : Fn := runB 3 5 F__law_two
theorem sc__law_two : FnScope N__law_two ["generator", "size", "far"] (defScope s__law_two) := ⟨rfl, rfl, rfl, by decide +kernel, rfl, by decide +kernel, by decide +kernel⟩
theorem b__law_two {P : Program} {w : World} {K : PySem.W.Frag} {mg : Str → Option Value} {base : Heap} (W : World_ K mg) {cdv : Value} {A : Around} {outer : List L2Env} {s : Shared} {H : Hp} {vs : List V} {E : XK} {f : Addr} (hr : Room 4 (A.deeper (envOfC "_law_two" (defScope s__law_two) s.heap.objs.size f cdv))) (hq : (A.deeper (envOfC "_law_two" (defScope s__law_two) s.heap.objs.size f cdv)).guards = some []) :
    SSs ⟨K, vs, H⟩ (cxD P w K mg base N__law_two "_law_two" (defScope s__law_two) f cdv A outer s H E) (defBody s__law_two) F__law_two := by
  have hu1 := units1 hr
  have hu64 := hr.units
  have hu65 := units65 hr
  have hu80 := units80 hr
  have nd := sc__law_two.nd
  exact ss_cons (s_set 3 nd (ee_call (by rfl) (d__law_moved W) hr hq (by decide) (eas_cons (ea_e (ee_call (by rfl) (d__law_grown W) hr hq (by decide) (eas_cons (ea_s 0) (eas_cons (ea_e (ee_var 1)) (eas_cons (ea_e (ee_int)) (eas_nil)))) (by rfl))) (eas_cons (ea_e (ee_op (by rfl) or_sub (ea_e (ee_call (by rfl) (d__law_random W) hr hq (by decide) (eas_cons (ea_s 0) (eas_cons (ea_e (ee_var 2)) (eas_nil))) (by rfl))) (ea_e (ee_op (by rfl) or_fdiv (ea_s 2) (ea_e (ee_int)))))) (eas_cons (ea_e (ee_op (by rfl) or_sub (ea_e (ee_call (by rfl) (d__law_random W) hr hq (by decide) (eas_cons (ea_s 0) (eas_cons (ea_e (ee_var 2)) (eas_nil))) (by rfl))) (ea_e (ee_op (by rfl) or_fdiv (ea_s 2) (ea_e (ee_int)))))) (eas_nil)))) (by rfl))) (ss_cons (s_set 4 nd (ee_call (by rfl) (d__law_kinds W) hr hq (by decide) (eas_cons (ea_e (ee_var 3)) (eas_cons (ea_e (ee_call (by rfl) (d__law_part W) hr hq (by decide) (eas_cons (ea_s 0) (eas_cons (ea_e (ee_var 3)) (eas_nil))) (by rfl))) (eas_nil))) (by rfl))) (ss_cons (s_set 5 nd (ee_call (by rfl) (d__law_random W) hr hq (by decide) (eas_cons (ea_s 0) (eas_cons (ea_e (ee_int)) (eas_nil))) (by rfl))) (ss_cons (s_if (et_w (ew_or (et_cmp (by rfl) (or_eqy hu80) (ea_s 5) (ea_e (ee_int))) (ew_or (et_cmp (by rfl) or_is (ea_s 4) (ea_e (ee_non))) (ew_or1 (et_cmp (by rfl) (or_eqy hu80) (ea_s 4) (ea_e (ee_dct))))))) (ss_one (s_ret (ee_tup (efs_cons (ee_var 3) (efs_cons (ee_call (by rfl) (d__law_moved W) hr hq (by decide) (eas_cons (ea_e (ee_call (by rfl) (d__law_grown W) hr hq (by decide) (eas_cons (ea_s 0) (eas_cons (ea_e (ee_int)) (eas_cons (ea_e (ee_int)) (eas_nil)))) (by rfl))) (eas_cons (ea_e (ee_op (by rfl) or_sub (ea_e (ee_call (by rfl) (d__law_random W) hr hq (by decide) (eas_cons (ea_s 0) (eas_cons (ea_e (ee_var 2)) (eas_nil))) (by rfl))) (ea_e (ee_op (by rfl) or_fdiv (ea_s 2) (ea_e (ee_int)))))) (eas_cons (ea_e (ee_op (by rfl) or_sub (ea_e (ee_call (by rfl) (d__law_random W) hr hq (by decide) (eas_cons (ea_s 0) (eas_cons (ea_e (ee_var 2)) (eas_nil))) (by rfl))) (ea_e (ee_op (by rfl) or_fdiv (ea_s 2) (ea_e (ee_int)))))) (eas_nil)))) (by rfl)) (efs_nil)))))) (ss_nil)) (ss_cons (s_if (et_cmp (by rfl) (or_eqy hu80) (ea_s 5) (ea_e (ee_int))) (ss_one (s_ret (ee_tup (efs_cons (ee_var 3) (efs_cons (ee_call (by rfl) (d__law_part W) hr hq (by decide) (eas_cons (ea_s 0) (eas_cons (ea_e (ee_var 3)) (eas_nil))) (by rfl)) (efs_nil)))))) (ss_nil)) (ss_cons (s_if (et_cmp (by rfl) (or_eqy hu80) (ea_s 5) (ea_e (ee_int))) (ss_one (s_ret (ee_tup (efs_cons (ee_var 4) (efs_cons (ee_call (by rfl) (d__law_kinds W) hr hq (by decide) (eas_cons (ea_e (ee_var 3)) (eas_cons (ea_e (ee_var 4)) (eas_nil))) (by rfl)) (efs_nil)))))) (ss_nil)) (ss_cons (s_set 6 nd (ee_if (et_cmp (by rfl) (or_eqy hu80) (ea_s 5) (ea_e (ee_int))) (ee_call (by rfl) (d__law_moved W) hr hq (by decide) (eas_cons (ea_e (ee_var 3)) (eas_cons (ea_e (ee_call (by rfl) (d__law_random W) hr hq (by decide) (eas_cons (ea_s 0) (eas_cons (ea_e (ee_int)) (eas_nil))) (by rfl))) (eas_cons (ea_e (ee_call (by rfl) (d__law_random W) hr hq (by decide) (eas_cons (ea_s 0) (eas_cons (ea_e (ee_int)) (eas_nil))) (by rfl))) (eas_nil)))) (by rfl)) (ee_callTy (by rfl) (ct_dict hu80 (by rfl)) (by rfl) W.g_dict bt_dict (eas_cons (ea_e (ee_lcD 3 rfl nd (blkOk_by (own := [("cell", 7)]) rfl) (fun _ _ _ _ _ => gw_name 7 nd) (fun _ _ _ _ _ => ets_nil) (fun _ _ _ _ _ => ee_tup (efs_cons (ee_var 7) (efs_cons (ee_if (et_cmp (by rfl) (or_ney hu80) (ea_e (ee_ix (by rfl) (ir_ix hu1) (ea_s 3) (ea_s 7))) (ea_e (ee_int))) (ee_op (by rfl) or_mod (ea_e (ee_callTy (by rfl) ct_int (by rfl) W.g_int bt_int (eas_cons (ea_e (ee_op (by rfl) or_add (ea_e (ee_ix (by rfl) (ir_ix hu1) (ea_s 3) (ea_s 7))) (ea_e (ee_int)))) (eas_nil)))) (ea_e (ee_int))) (ee_int)) (efs_nil)))))) (eas_nil))))) (ss_one (s_ret (ee_tup (efs_cons (ee_var 3) (efs_cons (ee_var 6) (efs_nil))))))))))))
theorem d__law_two {P : Program} {w : World} {K : PySem.W.Frag} {mg : Str → Option Value} {base : Heap} (W : World_ K mg) : Def P w K mg base "_law_two" s__law_two ["generator", "size", "far"] 5 φ__law_two := by
  obtain ⟨f, fd, hm, D⟩ := W.f__law_two
  have h := def_run (P := P) (w := w) (base := base) (k := 4) D hm sc__law_two (fun _ _ _ _ _ _ us hl => match us, hl with | [_, _, _], _ => rfl) (b := F__law_two) fun cdv A outer s H vs E hr hq => b__law_two W hr hq
  exact h
/-! is_whole -/
def N_is_whole : List Str := ["value"]
def F_is_whole : SF := retF (andVF (isiF "int" (.s 0)) (notVF (isiF "bool" (.s 0))))
def φ_is_whole : Fn := runB 1 0 F_is_whole
theorem sc_is_whole : FnScope N_is_whole ["value"] (defScope s_is_whole) := ⟨rfl, rfl, rfl, by decide +kernel, rfl, by decide +kernel, by decide +kernel⟩
theorem b_is_whole {P : Program} {w : World} {K : PySem.W.Frag} {mg : Str → Option Value} {base : Heap} (W : World_ K mg) {cdv : Value} {A : Around} {outer : List L2Env} {s : Shared} {H : Hp} {vs : List V} {E : XK} {f : Addr} (hr : Room 0 (A.deeper (envOfC "is_whole" (defScope s_is_whole) s.heap.objs.size f cdv))) (hq : (A.deeper (envOfC "is_whole" (defScope s_is_whole) s.heap.objs.size f cdv)).guards = some []) :
    SSs ⟨K, vs, H⟩ (cxD P w K mg base N_is_whole "is_whole" (defScope s_is_whole) f cdv A outer s H E) (defBody s_is_whole) F_is_whole := by
  have hu1 := units1 hr
  have hu64 := hr.units
  have hu65 := units65 hr
  have hu80 := units80 hr
  have nd := sc_is_whole.nd
  exact ss_one (s_ret (ee_and (ee_isi (by rfl) (ea_s 0) (by decide) (by rfl) W.g_isinstance (by rfl) W.g_int bt_int bt_isinstance) (ee_one (ee_not (ee_isi (by rfl) (ea_s 0) (by decide) (by rfl) W.g_isinstance (by rfl) W.g_bool bt_bool bt_isinstance)))))
theorem d_is_whole {P : Program} {w : World} {K : PySem.W.Frag} {mg : Str → Option Value} {base : Heap} (W : World_ K mg) : Def P w K mg base "is_whole" s_is_whole ["value"] 1 φ_is_whole := by
  obtain ⟨f, fd, hm, D⟩ := W.f_is_whole
  have h := def_run (P := P) (w := w) (base := base) (k := 0) D hm sc_is_whole (fun _ _ _ _ _ _ us hl => match us, hl with | [_], _ => rfl) (b := F_is_whole) fun cdv A outer s H vs E hr hq => b_is_whole W hr hq
  exact h
/-! is_count -/
def N_is_count : List Str := ["value"]
def F_is_count : SF := retF (andVF (callF φ_is_whole [.e (varF 0)]) (opF opGe [.s 0, .e (cF (.int 0))]))
def φ_is_count : Fn := runB 1 0 F_is_count
theorem sc_is_count : FnScope N_is_count ["value"] (defScope s_is_count) := ⟨rfl, rfl, rfl, by decide +kernel, rfl, by decide +kernel, by decide +kernel⟩
theorem b_is_count {P : Program} {w : World} {K : PySem.W.Frag} {mg : Str → Option Value} {base : Heap} (W : World_ K mg) {cdv : Value} {A : Around} {outer : List L2Env} {s : Shared} {H : Hp} {vs : List V} {E : XK} {f : Addr} (hr : Room 1 (A.deeper (envOfC "is_count" (defScope s_is_count) s.heap.objs.size f cdv))) (hq : (A.deeper (envOfC "is_count" (defScope s_is_count) s.heap.objs.size f cdv)).guards = some []) :
    SSs ⟨K, vs, H⟩ (cxD P w K mg base N_is_count "is_count" (defScope s_is_count) f cdv A outer s H E) (defBody s_is_count) F_is_count := by
  have hu1 := units1 hr
  have hu64 := hr.units
  have hu65 := units65 hr
  have hu80 := units80 hr
  have nd := sc_is_count.nd
  exact ss_one (s_ret (ee_and (ee_call (by rfl) (d_is_whole W) hr hq (by decide) (eas_cons (ea_e (ee_var 0)) (eas_nil)) (by rfl)) (ee_one (ee_cmp (by rfl) or_ge (ea_s 0) (ea_e (ee_int))))))
theorem d_is_count {P : Program} {w : World} {K : PySem.W.Frag} {mg : Str → Option Value} {base : Heap} (W : World_ K mg) : Def P w K mg base "is_count" s_is_count ["value"] 2 φ_is_count := by
  obtain ⟨f, fd, hm, D⟩ := W.f_is_count
  have h := def_run (P := P) (w := w) (base := base) (k := 1) D hm sc_is_count (fun _ _ _ _ _ _ us hl => match us, hl with | [_], _ => rfl) (b := F_is_count) fun cdv A outer s H vs E hr hq => b_is_count W hr hq
  exact h
/-! is_whole_number -/
def N_is_whole_number : List Str := ["value"]
def F_is_whole_number : SF := retF (orVF (callF φ_is_count [.e (varF 0)]) (andVF (isiF "int" (.s 0)) (opF opLt [.s 0, .e (cF (.int 0))])))
def φ_is_whole_number : Fn := runB 1 0 F_is_whole_number
theorem sc_is_whole_number : FnScope N_is_whole_number ["value"] (defScope s_is_whole_number) := ⟨rfl, rfl, rfl, by decide +kernel, rfl, by decide +kernel, by decide +kernel⟩
theorem b_is_whole_number {P : Program} {w : World} {K : PySem.W.Frag} {mg : Str → Option Value} {base : Heap} (W : World_ K mg) {cdv : Value} {A : Around} {outer : List L2Env} {s : Shared} {H : Hp} {vs : List V} {E : XK} {f : Addr} (hr : Room 2 (A.deeper (envOfC "is_whole_number" (defScope s_is_whole_number) s.heap.objs.size f cdv))) (hq : (A.deeper (envOfC "is_whole_number" (defScope s_is_whole_number) s.heap.objs.size f cdv)).guards = some []) :
    SSs ⟨K, vs, H⟩ (cxD P w K mg base N_is_whole_number "is_whole_number" (defScope s_is_whole_number) f cdv A outer s H E) (defBody s_is_whole_number) F_is_whole_number := by
  have hu1 := units1 hr
  have hu64 := hr.units
  have hu65 := units65 hr
  have hu80 := units80 hr
  have nd := sc_is_whole_number.nd
  exact ss_one (s_ret (ee_or (ee_call (by rfl) (d_is_count W) hr hq (by decide) (eas_cons (ea_e (ee_var 0)) (eas_nil)) (by rfl)) (ee_one (ee_and (ee_isi (by rfl) (ea_s 0) (by decide) (by rfl) W.g_isinstance (by rfl) W.g_int bt_int bt_isinstance) (ee_one (ee_cmp (by rfl) or_lt (ea_s 0) (ea_e (ee_int))))))))
theorem d_is_whole_number {P : Program} {w : World} {K : PySem.W.Frag} {mg : Str → Option Value} {base : Heap} (W : World_ K mg) : Def P w K mg base "is_whole_number" s_is_whole_number ["value"] 3 φ_is_whole_number := by
  obtain ⟨f, fd, hm, D⟩ := W.f_is_whole_number
  have h := def_run (P := P) (w := w) (base := base) (k := 2) D hm sc_is_whole_number (fun _ _ _ _ _ _ us hl => match us, hl with | [_], _ => rfl) (b := F_is_whole_number) fun cdv A outer s H vs E hr hq => b_is_whole_number W hr hq
  exact h
/-! is_cell -/
def N_is_cell : List Str := ["value", "number"]
def F_is_cell : SF := retF (andVF (isiF "tuple" (.s 0)) (andVF (opF opEqY [.e (opF opLen [.s 0]), .e (cF (.int 2))]) (opF opAll [.e (lcF [1] (tupI (varF 0)) (nameG 1) yesF (callF φ_is_whole_number [.e (varF 1)]))])))
def φ_is_cell : Fn := runB 1 1 F_is_cell
theorem sc_is_cell : FnScope N_is_cell ["value"] (defScope s_is_cell) := ⟨rfl, rfl, rfl, by decide +kernel, rfl, by decide +kernel, by decide +kernel⟩
theorem b_is_cell {P : Program} {w : World} {K : PySem.W.Frag} {mg : Str → Option Value} {base : Heap} (W : World_ K mg) {cdv : Value} {A : Around} {outer : List L2Env} {s : Shared} {H : Hp} {vs : List V} {E : XK} {f : Addr} (hr : Room 3 (A.deeper (envOfC "is_cell" (defScope s_is_cell) s.heap.objs.size f cdv))) (hq : (A.deeper (envOfC "is_cell" (defScope s_is_cell) s.heap.objs.size f cdv)).guards = some []) :
    SSs ⟨K, vs, H⟩ (cxD P w K mg base N_is_cell "is_cell" (defScope s_is_cell) f cdv A outer s H E) (defBody s_is_cell) F_is_cell := by
  have hu1 := units1 hr
  have hu64 := hr.units
  have hu65 := units65 hr
  have hu80 := units80 hr
  have nd := sc_is_cell.nd
  exact ss_one (s_ret (ee_and (ee_isi (by rfl) (ea_s 0) (by decide) (by rfl) W.g_isinstance (by rfl) W.g_tuple bt_tuple bt_isinstance) (ee_and (ee_cmp (by rfl) (or_eqy hu80) (ea_e (ee_callB (by rfl) cb_len (by rfl) W.g_len bt_len (eas_cons (ea_s 0) (eas_nil)))) (ea_e (ee_int))) (ee_one (ee_callB (by rfl) (cb_all (by rfl)) (by rfl) W.g_all bt_all (eas_cons (ea_e (ee_lc rfl nd (ii_tup (by rfl) (ee_var 0)) (blkOk_by (own := [("number", 1)]) rfl) (fun _ _ _ _ _ => gw_name 1 nd) (fun _ _ _ _ _ => ets_nil) (fun _ _ _ _ _ => ee_call (by rfl) (d_is_whole_number W) hr hq (by decide) (eas_cons (ea_e (ee_var 1)) (eas_nil)) (by rfl)))) (eas_nil)))))))
theorem d_is_cell {P : Program} {w : World} {K : PySem.W.Frag} {mg : Str → Option Value} {base : Heap} (W : World_ K mg) : Def P w K mg base "is_cell" s_is_cell ["value"] 4 φ_is_cell := by
  obtain ⟨f, fd, hm, D⟩ := W.f_is_cell
  have h := def_run (P := P) (w := w) (base := base) (k := 3) D hm sc_is_cell (fun _ _ _ _ _ _ us hl => match us, hl with | [_], _ => rfl) (b := F_is_cell) fun cdv A outer s H vs E hr hq => b_is_cell W hr hq
  exact h
/-! is_figure -/
def N_is_figure : List Str := ["value", "cell"]
def F_is_figure : SF := seqF (ifS (orF (notF (boolF (isiF "dict" (.s 0)))) (orF (boolF (opF opEqY [.e (opF opLen [.s 0]), .e (cF (.int 0))])) (notF (boolF (opF opAll [.e (lcF [1] (dictS 0) (nameG 1) yesF (callF φ_is_cell [.e (varF 1)]))]))))) (retF (cF (.bool false))) (nxF)) (retF (opF opAll [.e (lcF [1] (dictS 0) (nameG 1) yesF (andVF (callF φ_is_count [.e (opF opIx [.s 0, .s 1])]) (opF opLe [.e (opF opIx [.s 0, .s 1]), .e (cF (.int 4))])))]))
def φ_is_figure : Fn := runB 1 1 F_is_figure
theorem sc_is_figure : FnScope N_is_figure ["value"] (defScope s_is_figure) := ⟨rfl, rfl, rfl, by decide +kernel, rfl, by decide +kernel, by decide +kernel⟩
theorem b_is_figure {P : Program} {w : World} {K : PySem.W.Frag} {mg : Str → Option Value} {base : Heap} (W : World_ K mg) {cdv : Value} {A : Around} {outer : List L2Env} {s : Shared} {H : Hp} {vs : List V} {E : XK} {f : Addr} (hr : Room 4 (A.deeper (envOfC "is_figure" (defScope s_is_figure) s.heap.objs.size f cdv))) (hq : (A.deeper (envOfC "is_figure" (defScope s_is_figure) s.heap.objs.size f cdv)).guards = some []) :
    SSs ⟨K, vs, H⟩ (cxD P w K mg base N_is_figure "is_figure" (defScope s_is_figure) f cdv A outer s H E) (defBody s_is_figure) F_is_figure := by
  obtain ⟨t_WHOLE, c_WHOLE⟩ := W.c_WHOLE
  have hu1 := units1 hr
  have hu64 := hr.units
  have hu65 := units65 hr
  have hu80 := units80 hr
  have nd := sc_is_figure.nd
  exact ss_cons (s_if (et_w (ew_or (et_not (et_val (ee_isi (by rfl) (ea_s 0) (by decide) (by rfl) W.g_isinstance (by rfl) W.g_dict bt_dict bt_isinstance))) (ew_or (et_cmp (by rfl) (or_eqy hu80) (ea_e (ee_callB (by rfl) cb_len (by rfl) W.g_len bt_len (eas_cons (ea_s 0) (eas_nil)))) (ea_e (ee_int))) (ew_or1 (et_not (et_val (ee_callB (by rfl) (cb_all (by rfl)) (by rfl) W.g_all bt_all (eas_cons (ea_e (ee_lcD 0 rfl nd (blkOk_by (own := [("cell", 1)]) rfl) (fun _ _ _ _ _ => gw_name 1 nd) (fun _ _ _ _ _ => ets_nil) (fun _ _ _ _ _ => ee_call (by rfl) (d_is_cell W) hr hq (by decide) (eas_cons (ea_e (ee_var 1)) (eas_nil)) (by rfl)))) (eas_nil))))))))) (ss_one (s_ret (ee_bl))) (ss_nil)) (ss_one (s_ret (ee_callB (by rfl) (cb_all (by rfl)) (by rfl) W.g_all bt_all (eas_cons (ea_e (ee_lcD 0 rfl nd (blkOk_by (own := [("cell", 1)]) rfl) (fun _ _ _ _ _ => gw_name 1 nd) (fun _ _ _ _ _ => ets_nil) (fun _ _ _ _ _ => ee_and (ee_call (by rfl) (d_is_count W) hr hq (by decide) (eas_cons (ea_e (ee_ix (by rfl) (ir_ix hu1) (ea_s 0) (ea_s 1))) (eas_nil)) (by rfl)) (ee_one (ee_cmp (by rfl) or_le (ea_e (ee_ix (by rfl) (ir_ix hu1) (ea_s 0) (ea_s 1))) (ea_e (ee_glob rfl c_WHOLE ⟨_, rfl⟩ (v := .int 4) (fun _ => by unfold Rep; rfl)))))))) (eas_nil)))))
theorem d_is_figure {P : Program} {w : World} {K : PySem.W.Frag} {mg : Str → Option Value} {base : Heap} (W : World_ K mg) : Def P w K mg base "is_figure" s_is_figure ["value"] 5 φ_is_figure := by
  obtain ⟨f, fd, hm, D⟩ := W.f_is_figure
  have h := def_run (P := P) (w := w) (base := base) (k := 4) D hm sc_is_figure (fun _ _ _ _ _ _ us hl => match us, hl with | [_], _ => rfl) (b := F_is_figure) fun cdv A outer s H vs E hr hq => b_is_figure W hr hq
  exact h
/-! check_figure -/
def N_check_figure : List Str := ["figure"]
def F_check_figure : SF := ifS (notF (boolF (callF φ_is_figure [.e (varF 0)]))) ((fun _ => .bad)) (nxF)
def φ_check_figure : Fn := runB 1 0 F_check_figure
theorem sc_check_figure : FnScope N_check_figure ["figure"] (defScope s_check_figure) := ⟨rfl, rfl, rfl, by decide +kernel, rfl, by decide +kernel, by decide +kernel⟩
theorem b_check_figure {P : Program} {w : World} {K : PySem.W.Frag} {mg : Str → Option Value} {base : Heap} (W : World_ K mg) {cdv : Value} {A : Around} {outer : List L2Env} {s : Shared} {H : Hp} {vs : List V} {E : XK} {f : Addr} (hr : Room 5 (A.deeper (envOfC "check_figure" (defScope s_check_figure) s.heap.objs.size f cdv))) (hq : (A.deeper (envOfC "check_figure" (defScope s_check_figure) s.heap.objs.size f cdv)).guards = some []) :
    SSs ⟨K, vs, H⟩ (cxD P w K mg base N_check_figure "check_figure" (defScope s_check_figure) f cdv A outer s H E) (defBody s_check_figure) F_check_figure := by
  have hu1 := units1 hr
  have hu64 := hr.units
  have hu65 := units65 hr
  have hu80 := units80 hr
  have nd := sc_check_figure.nd
  exact ss_one (s_if (et_not (et_val (ee_call (by rfl) (d_is_figure W) hr hq (by decide) (eas_cons (ea_e (ee_var 0)) (eas_nil)) (by rfl)))) (ss_one (s_never)) (ss_nil))
theorem d_check_figure {P : Program} {w : World} {K : PySem.W.Frag} {mg : Str → Option Value} {base : Heap} (W : World_ K mg) : Def P w K mg base "check_figure" s_check_figure ["figure"] 6 φ_check_figure := by
  obtain ⟨f, fd, hm, D⟩ := W.f_check_figure
  have h := def_run (P := P) (w := w) (base := base) (k := 5) D hm sc_check_figure (fun _ _ _ _ _ _ us hl => match us, hl with | [_], _ => rfl) (b := F_check_figure) fun cdv A outer s H vs E hr hq => b_check_figure W hr hq
  exact h
/-! halves_in -/
def N_halves_in : List Str := ["figure", "cell"]
def F_halves_in : SF := retF (opF opSum [.e (lcF [1] (dictS 0) (nameG 1) yesF (ifF (boolF (opF opEqY [.e (opF opIx [.s 0, .s 1]), .e (cF (.int 4))])) (cF (.int 2)) (cF (.int 1))))])
def φ_halves_in : Fn := runB 1 1 F_halves_in
theorem sc_halves_in : FnScope N_halves_in ["figure"] (defScope s_halves_in) := ⟨rfl, rfl, rfl, by decide +kernel, rfl, by decide +kernel, by decide +kernel⟩
theorem b_halves_in {P : Program} {w : World} {K : PySem.W.Frag} {mg : Str → Option Value} {base : Heap} (W : World_ K mg) {cdv : Value} {A : Around} {outer : List L2Env} {s : Shared} {H : Hp} {vs : List V} {E : XK} {f : Addr} (hr : Room 0 (A.deeper (envOfC "halves_in" (defScope s_halves_in) s.heap.objs.size f cdv))) (hq : (A.deeper (envOfC "halves_in" (defScope s_halves_in) s.heap.objs.size f cdv)).guards = some []) :
    SSs ⟨K, vs, H⟩ (cxD P w K mg base N_halves_in "halves_in" (defScope s_halves_in) f cdv A outer s H E) (defBody s_halves_in) F_halves_in := by
  obtain ⟨t_WHOLE, c_WHOLE⟩ := W.c_WHOLE
  have hu1 := units1 hr
  have hu64 := hr.units
  have hu65 := units65 hr
  have hu80 := units80 hr
  have nd := sc_halves_in.nd
  exact ss_one (s_ret (ee_callB (by rfl) (cb_sum (by rfl)) (by rfl) W.g_sum bt_sum (eas_cons (ea_e (ee_lcD 0 rfl nd (blkOk_by (own := [("cell", 1)]) rfl) (fun _ _ _ _ _ => gw_name 1 nd) (fun _ _ _ _ _ => ets_nil) (fun _ _ _ _ _ => ee_if (et_cmp (by rfl) (or_eqy hu80) (ea_e (ee_ix (by rfl) (ir_ix hu1) (ea_s 0) (ea_s 1))) (ea_e (ee_glob rfl c_WHOLE ⟨_, rfl⟩ (v := .int 4) (fun _ => by unfold Rep; rfl)))) (ee_int) (ee_int)))) (eas_nil))))
theorem d_halves_in {P : Program} {w : World} {K : PySem.W.Frag} {mg : Str → Option Value} {base : Heap} (W : World_ K mg) : Def P w K mg base "halves_in" s_halves_in ["figure"] 1 φ_halves_in := by
  obtain ⟨f, fd, hm, D⟩ := W.f_halves_in
  have h := def_run (P := P) (w := w) (base := base) (k := 0) D hm sc_halves_in (fun _ _ _ _ _ _ us hl => match us, hl with | [_], _ => rfl) (b := F_halves_in) fun cdv A outer s H vs E hr hq => b_halves_in W hr hq
  exact h
/-! halves_of -/
def N_halves_of : List Str := ["figure"]
def F_halves_of : SF := seqF (dropF (callF φ_check_figure [.e (varF 0)])) (retF (callF φ_halves_in [.e (varF 0)]))
def φ_halves_of : Fn := runB 1 0 F_halves_of
theorem sc_halves_of : FnScope N_halves_of ["figure"] (defScope s_halves_of) := ⟨rfl, rfl, rfl, by decide +kernel, rfl, by decide +kernel, by decide +kernel⟩
theorem b_halves_of {P : Program} {w : World} {K : PySem.W.Frag} {mg : Str → Option Value} {base : Heap} (W : World_ K mg) {cdv : Value} {A : Around} {outer : List L2Env} {s : Shared} {H : Hp} {vs : List V} {E : XK} {f : Addr} (hr : Room 6 (A.deeper (envOfC "halves_of" (defScope s_halves_of) s.heap.objs.size f cdv))) (hq : (A.deeper (envOfC "halves_of" (defScope s_halves_of) s.heap.objs.size f cdv)).guards = some []) :
    SSs ⟨K, vs, H⟩ (cxD P w K mg base N_halves_of "halves_of" (defScope s_halves_of) f cdv A outer s H E) (defBody s_halves_of) F_halves_of := by
  have hu1 := units1 hr
  have hu64 := hr.units
  have hu65 := units65 hr
  have hu80 := units80 hr
  have nd := sc_halves_of.nd
  exact ss_cons (s_expr (ee_call (by rfl) (d_check_figure W) hr hq (by decide) (eas_cons (ea_e (ee_var 0)) (eas_nil)) (by rfl))) (ss_one (s_ret (ee_call (by rfl) (d_halves_in W) hr hq (by decide) (eas_cons (ea_e (ee_var 0)) (eas_nil)) (by rfl))))
theorem d_halves_of {P : Program} {w : World} {K : PySem.W.Frag} {mg : Str → Option Value} {base : Heap} (W : World_ K mg) : Def P w K mg base "halves_of" s_halves_of ["figure"] 7 φ_halves_of := by
  obtain ⟨f, fd, hm, D⟩ := W.f_halves_of
  have h := def_run (P := P) (w := w) (base := base) (k := 6) D hm sc_halves_of (fun _ _ _ _ _ _ us hl => match us, hl with | [_], _ => rfl) (b := F_halves_of) fun cdv A outer s H vs E hr hq => b_halves_of W hr hq
  exact h
/-! check_two_figures -/
def N_check_two_figures : List Str := ["figure", "other"]
def F_check_two_figures : SF := seqF (dropF (callF φ_check_figure [.e (varF 0)])) (dropF (callF φ_check_figure [.e (varF 1)]))
def φ_check_two_figures : Fn := runB 2 0 F_check_two_figures
theorem sc_check_two_figures : FnScope N_check_two_figures ["figure", "other"] (defScope s_check_two_figures) := ⟨rfl, rfl, rfl, by decide +kernel, rfl, by decide +kernel, by decide +kernel⟩
theorem b_check_two_figures {P : Program} {w : World} {K : PySem.W.Frag} {mg : Str → Option Value} {base : Heap} (W : World_ K mg) {cdv : Value} {A : Around} {outer : List L2Env} {s : Shared} {H : Hp} {vs : List V} {E : XK} {f : Addr} (hr : Room 6 (A.deeper (envOfC "check_two_figures" (defScope s_check_two_figures) s.heap.objs.size f cdv))) (hq : (A.deeper (envOfC "check_two_figures" (defScope s_check_two_figures) s.heap.objs.size f cdv)).guards = some []) :
    SSs ⟨K, vs, H⟩ (cxD P w K mg base N_check_two_figures "check_two_figures" (defScope s_check_two_figures) f cdv A outer s H E) (defBody s_check_two_figures) F_check_two_figures := by
  have hu1 := units1 hr
  have hu64 := hr.units
  have hu65 := units65 hr
  have hu80 := units80 hr
  have nd := sc_check_two_figures.nd
  exact ss_cons (s_expr (ee_call (by rfl) (d_check_figure W) hr hq (by decide) (eas_cons (ea_e (ee_var 0)) (eas_nil)) (by rfl))) (ss_one (s_expr (ee_call (by rfl) (d_check_figure W) hr hq (by decide) (eas_cons (ea_e (ee_var 1)) (eas_nil)) (by rfl))))
theorem d_check_two_figures {P : Program} {w : World} {K : PySem.W.Frag} {mg : Str → Option Value} {base : Heap} (W : World_ K mg) : Def P w K mg base "check_two_figures" s_check_two_figures ["figure", "other"] 7 φ_check_two_figures := by
  obtain ⟨f, fd, hm, D⟩ := W.f_check_two_figures
  have h := def_run (P := P) (w := w) (base := base) (k := 6) D hm sc_check_two_figures (fun _ _ _ _ _ _ us hl => match us, hl with | [_, _], _ => rfl) (b := F_check_two_figures) fun cdv A outer s H vs E hr hq => b_check_two_figures W hr hq
  exact h
/-! is_within -/
def N_is_within : List Str := ["figure", "other", "cell"]
def F_is_within : SF := retF (opF opAll [.e (lcF [2] (dictS 1) (nameG 2) yesF (andVF (opF opIn [.s 2, .s 0]) (opF opIn [.e (opF opIx [.s 0, .s 2]), .e (tupF [cF (.int 4), opF opIx [.s 1, .s 2]])])))])
def φ_is_within : Fn := runB 2 1 F_is_within
theorem sc_is_within : FnScope N_is_within ["figure", "other"] (defScope s_is_within) := ⟨rfl, rfl, rfl, by decide +kernel, rfl, by decide +kernel, by decide +kernel⟩
theorem b_is_within {P : Program} {w : World} {K : PySem.W.Frag} {mg : Str → Option Value} {base : Heap} (W : World_ K mg) {cdv : Value} {A : Around} {outer : List L2Env} {s : Shared} {H : Hp} {vs : List V} {E : XK} {f : Addr} (hr : Room 0 (A.deeper (envOfC "is_within" (defScope s_is_within) s.heap.objs.size f cdv))) (hq : (A.deeper (envOfC "is_within" (defScope s_is_within) s.heap.objs.size f cdv)).guards = some []) :
    SSs ⟨K, vs, H⟩ (cxD P w K mg base N_is_within "is_within" (defScope s_is_within) f cdv A outer s H E) (defBody s_is_within) F_is_within := by
  obtain ⟨t_WHOLE, c_WHOLE⟩ := W.c_WHOLE
  have hu1 := units1 hr
  have hu64 := hr.units
  have hu65 := units65 hr
  have hu80 := units80 hr
  have nd := sc_is_within.nd
  exact ss_one (s_ret (ee_callB (by rfl) (cb_all (by rfl)) (by rfl) W.g_all bt_all (eas_cons (ea_e (ee_lcD 1 rfl nd (blkOk_by (own := [("cell", 2)]) rfl) (fun _ _ _ _ _ => gw_name 2 nd) (fun _ _ _ _ _ => ets_nil) (fun _ _ _ _ _ => ee_and (ee_cmp (by rfl) (or_in hu65) (ea_s 2) (ea_s 0)) (ee_one (ee_cmp (by rfl) (or_in hu65) (ea_e (ee_ix (by rfl) (ir_ix hu1) (ea_s 0) (ea_s 2))) (ea_e (ee_tup (efs_cons (ee_glob rfl c_WHOLE ⟨_, rfl⟩ (v := .int 4) (fun _ => by unfold Rep; rfl)) (efs_cons (ee_ix (by rfl) (ir_ix hu1) (ea_s 1) (ea_s 2)) (efs_nil)))))))))) (eas_nil))))
theorem d_is_within {P : Program} {w : World} {K : PySem.W.Frag} {mg : Str → Option Value} {base : Heap} (W : World_ K mg) : Def P w K mg base "is_within" s_is_within ["figure", "other"] 1 φ_is_within := by
  obtain ⟨f, fd, hm, D⟩ := W.f_is_within
  have h := def_run (P := P) (w := w) (base := base) (k := 0) D hm sc_is_within (fun _ _ _ _ _ _ us hl => match us, hl with | [_, _], _ => rfl) (b := F_is_within) fun cdv A outer s H vs E hr hq => b_is_within W hr hq
  exact h
/-! is_within_figure -/
def N_is_within_figure : List Str := ["figure", "other"]
def F_is_within_figure : SF := seqF (dropF (callF φ_check_two_figures [.e (varF 0), .e (varF 1)])) (retF (callF φ_is_within [.e (varF 0), .e (varF 1)]))
def φ_is_within_figure : Fn := runB 2 0 F_is_within_figure
theorem sc_is_within_figure : FnScope N_is_within_figure ["figure", "other"] (defScope s_is_within_figure) := ⟨rfl, rfl, rfl, by decide +kernel, rfl, by decide +kernel, by decide +kernel⟩
theorem b_is_within_figure {P : Program} {w : World} {K : PySem.W.Frag} {mg : Str → Option Value} {base : Heap} (W : World_ K mg) {cdv : Value} {A : Around} {outer : List L2Env} {s : Shared} {H : Hp} {vs : List V} {E : XK} {f : Addr} (hr : Room 7 (A.deeper (envOfC "is_within_figure" (defScope s_is_within_figure) s.heap.objs.size f cdv))) (hq : (A.deeper (envOfC "is_within_figure" (defScope s_is_within_figure) s.heap.objs.size f cdv)).guards = some []) :
    SSs ⟨K, vs, H⟩ (cxD P w K mg base N_is_within_figure "is_within_figure" (defScope s_is_within_figure) f cdv A outer s H E) (defBody s_is_within_figure) F_is_within_figure := by
  have hu1 := units1 hr
  have hu64 := hr.units
  have hu65 := units65 hr
  have hu80 := units80 hr
  have nd := sc_is_within_figure.nd
  exact ss_cons (s_expr (ee_call (by rfl) (d_check_two_figures W) hr hq (by decide) (eas_cons (ea_e (ee_var 0)) (eas_cons (ea_e (ee_var 1)) (eas_nil))) (by rfl))) (ss_one (s_ret (ee_call (by rfl) (d_is_within W) hr hq (by decide) (eas_cons (ea_e (ee_var 0)) (eas_cons (ea_e (ee_var 1)) (eas_nil))) (by rfl))))
theorem d_is_within_figure {P : Program} {w : World} {K : PySem.W.Frag} {mg : Str → Option Value} {base : Heap} (W : World_ K mg) : Def P w K mg base "is_within_figure" s_is_within_figure ["figure", "other"] 8 φ_is_within_figure := by
  obtain ⟨f, fd, hm, D⟩ := W.f_is_within_figure
  have h := def_run (P := P) (w := w) (base := base) (k := 7) D hm sc_is_within_figure (fun _ _ _ _ _ _ us hl => match us, hl with | [_, _], _ => rfl) (b := F_is_within_figure) fun cdv A outer s H vs E hr hq => b_is_within_figure W hr hq
  exact h
/-! put_together -/
def N_put_together : List Str := ["figure", "other", "found", "cell"]
def B_put_together_0 : SF := ifS (boolF (opF opNotIn [.s 3, .s 2])) (putF 2 (varF 3) (opF opIx [.s 1, .s 3])) (ifS (orF (boolF (opF opIn [.e (cF (.int 4)), .e (tupF [opF opIx [.s 2, .s 3], opF opIx [.s 1, .s 3]])])) (boolF (opF opNeY [.e (opF opMod [.e (opF opAdd [.e (opF opIx [.s 2, .s 3]), .e (cF (.int 2))]), .e (cF (.int 4))]), .e (opF opIx [.s 1, .s 3])]))) (retF (cF .none)) (putF 2 (varF 3) (cF (.int 4))))
def F_put_together : SF := seqF (dropF (callF φ_check_two_figures [.e (varF 0), .e (varF 1)])) (seqF (setF 2 (dcF true [3] (dictS 0) (nameG 3) yesF (varF 3) (opF opIx [.s 0, .s 3]))) (seqF (forF (dictS 1) (nameG 3) (B_put_together_0)) (retO 2)))
def φ_put_together : Fn := runB 2 2 F_put_together
theorem sc_put_together : FnScope N_put_together ["figure", "other"] (defScope s_put_together) := ⟨rfl, rfl, rfl, by decide +kernel, rfl, by decide +kernel, by decide +kernel⟩
theorem b_put_together {P : Program} {w : World} {K : PySem.W.Frag} {mg : Str → Option Value} {base : Heap} (W : World_ K mg) {cdv : Value} {A : Around} {outer : List L2Env} {s : Shared} {H : Hp} {vs : List V} {E : XK} {f : Addr} (hr : Room 7 (A.deeper (envOfC "put_together" (defScope s_put_together) s.heap.objs.size f cdv))) (hq : (A.deeper (envOfC "put_together" (defScope s_put_together) s.heap.objs.size f cdv)).guards = some []) :
    SSs ⟨K, vs, H⟩ (cxD P w K mg base N_put_together "put_together" (defScope s_put_together) f cdv A outer s H E) (defBody s_put_together) F_put_together := by
  obtain ⟨t_WHOLE, c_WHOLE⟩ := W.c_WHOLE
  have hu1 := units1 hr
  have hu64 := hr.units
  have hu65 := units65 hr
  have hu80 := units80 hr
  have nd := sc_put_together.nd
  exact ss_cons (s_expr (ee_call (by rfl) (d_check_two_figures W) hr hq (by decide) (eas_cons (ea_e (ee_var 0)) (eas_cons (ea_e (ee_var 1)) (eas_nil))) (by rfl))) (ss_cons (s_setDcD true 0 2 hu1 rfl nd (by rfl) (blkOk_by (own := [("cell", 3)]) rfl) (fun _ _ _ _ _ => gw_name 3 nd) (fun _ _ _ _ _ => ets_nil) (fun _ _ _ _ _ => ee_var 3) (fun _ _ _ _ _ => ee_ix (by rfl) (ir_ix hu1) (ea_s 0) (ea_s 3))) (ss_cons (s_forD 1 PassesOwn.never (g_name 3 nd) (ss_one (s_if (et_cmp (by rfl) (or_notin hu65) (ea_s 3) (ea_s 2)) (ss_one (s_put 2 rfl hu1 (ee_var 3) (ee_ix (by rfl) (ir_ix hu1) (ea_s 1) (ea_s 3)))) (ss_one (s_if (et_w (ew_or (et_cmp (by rfl) (or_in hu65) (ea_e (ee_glob rfl c_WHOLE ⟨_, rfl⟩ (v := .int 4) (fun _ => by unfold Rep; rfl))) (ea_e (ee_tup (efs_cons (ee_ix (by rfl) (ir_ix hu1) (ea_s 2) (ea_s 3)) (efs_cons (ee_ix (by rfl) (ir_ix hu1) (ea_s 1) (ea_s 3)) (efs_nil)))))) (ew_or1 (et_cmp (by rfl) (or_ney hu80) (ea_e (ee_op (by rfl) or_mod (ea_e (ee_op (by rfl) or_add (ea_e (ee_ix (by rfl) (ir_ix hu1) (ea_s 2) (ea_s 3))) (ea_e (ee_int)))) (ea_e (ee_int)))) (ea_e (ee_ix (by rfl) (ir_ix hu1) (ea_s 1) (ea_s 3))))))) (ss_one (s_ret (ee_non))) (ss_one (s_put 2 rfl hu1 (ee_var 3) (ee_glob rfl c_WHOLE ⟨_, rfl⟩ (v := .int 4) (fun _ => by unfold Rep; rfl))))))))) (ss_one (s_retO 2))))
theorem d_put_together {P : Program} {w : World} {K : PySem.W.Frag} {mg : Str → Option Value} {base : Heap} (W : World_ K mg) : Def P w K mg base "put_together" s_put_together ["figure", "other"] 8 φ_put_together := by
  obtain ⟨f, fd, hm, D⟩ := W.f_put_together
  have h := def_run (P := P) (w := w) (base := base) (k := 7) D hm sc_put_together (fun _ _ _ _ _ _ us hl => match us, hl with | [_, _], _ => rfl) (b := F_put_together) fun cdv A outer s H vs E hr hq => b_put_together W hr hq
  exact h
/-! left_without -/
def N_left_without : List Str := ["figure", "other", "found", "cell"]
def B_left_without_0 : SF := ifS (boolF (opF opNotIn [.s 3, .s 1])) (putF 2 (varF 3) (opF opIx [.s 0, .s 3])) (ifS (boolF (opF opNeY [.e (opF opIx [.s 0, .s 3]), .e (opF opIx [.s 1, .s 3])])) (putF 2 (varF 3) (opF opMod [.e (opF opAdd [.e (opF opIx [.s 1, .s 3]), .e (cF (.int 2))]), .e (cF (.int 4))])) (nxF))
def F_left_without : SF := seqF (setF 2 (dctF)) (seqF (forF (dictS 0) (nameG 3) (B_left_without_0)) (retO 2))
def φ_left_without : Fn := runB 2 2 F_left_without
theorem sc_left_without : FnScope N_left_without ["figure", "other"] (defScope s_left_without) := ⟨rfl, rfl, rfl, by decide +kernel, rfl, by decide +kernel, by decide +kernel⟩
theorem b_left_without {P : Program} {w : World} {K : PySem.W.Frag} {mg : Str → Option Value} {base : Heap} (W : World_ K mg) {cdv : Value} {A : Around} {outer : List L2Env} {s : Shared} {H : Hp} {vs : List V} {E : XK} {f : Addr} (hr : Room 0 (A.deeper (envOfC "left_without" (defScope s_left_without) s.heap.objs.size f cdv))) (hq : (A.deeper (envOfC "left_without" (defScope s_left_without) s.heap.objs.size f cdv)).guards = some []) :
    SSs ⟨K, vs, H⟩ (cxD P w K mg base N_left_without "left_without" (defScope s_left_without) f cdv A outer s H E) (defBody s_left_without) F_left_without := by
  have hu1 := units1 hr
  have hu64 := hr.units
  have hu65 := units65 hr
  have hu80 := units80 hr
  have nd := sc_left_without.nd
  exact ss_cons (s_set 2 nd (ee_dct)) (ss_cons (s_forD 0 PassesOwn.never (g_name 3 nd) (ss_one (s_if (et_cmp (by rfl) (or_notin hu65) (ea_s 3) (ea_s 1)) (ss_one (s_put 2 rfl hu1 (ee_var 3) (ee_ix (by rfl) (ir_ix hu1) (ea_s 0) (ea_s 3)))) (ss_one (s_if (et_cmp (by rfl) (or_ney hu80) (ea_e (ee_ix (by rfl) (ir_ix hu1) (ea_s 0) (ea_s 3))) (ea_e (ee_ix (by rfl) (ir_ix hu1) (ea_s 1) (ea_s 3)))) (ss_one (s_put 2 rfl hu1 (ee_var 3) (ee_op (by rfl) or_mod (ea_e (ee_op (by rfl) or_add (ea_e (ee_ix (by rfl) (ir_ix hu1) (ea_s 1) (ea_s 3))) (ea_e (ee_int)))) (ea_e (ee_int))))) (ss_nil)))))) (ss_one (s_retO 2)))
theorem d_left_without {P : Program} {w : World} {K : PySem.W.Frag} {mg : Str → Option Value} {base : Heap} (W : World_ K mg) : Def P w K mg base "left_without" s_left_without ["figure", "other"] 1 φ_left_without := by
  obtain ⟨f, fd, hm, D⟩ := W.f_left_without
  have h := def_run (P := P) (w := w) (base := base) (k := 0) D hm sc_left_without (fun _ _ _ _ _ _ us hl => match us, hl with | [_, _], _ => rfl) (b := F_left_without) fun cdv A outer s H vs E hr hq => b_left_without W hr hq
  exact h
/-! taken_away -/
def N_taken_away : List Str := ["figure", "other", "found"]
def F_taken_away : SF := seqF (dropF (callF φ_check_two_figures [.e (varF 0), .e (varF 1)])) (seqF (ifS (notF (boolF (callF φ_is_within [.e (varF 0), .e (varF 1)]))) (retF (cF .none)) (nxF)) (seqF (setF 2 (callF φ_left_without [.e (varF 0), .e (varF 1)])) (retF (ifF (boolF (opF opGt [.e (opF opLen [.s 2]), .e (cF (.int 0))])) (varOF 2) (cF .none)))))
def φ_taken_away : Fn := runB 2 1 F_taken_away
theorem sc_taken_away : FnScope N_taken_away ["figure", "other"] (defScope s_taken_away) := ⟨rfl, rfl, rfl, by decide +kernel, rfl, by decide +kernel, by decide +kernel⟩
theorem b_taken_away {P : Program} {w : World} {K : PySem.W.Frag} {mg : Str → Option Value} {base : Heap} (W : World_ K mg) {cdv : Value} {A : Around} {outer : List L2Env} {s : Shared} {H : Hp} {vs : List V} {E : XK} {f : Addr} (hr : Room 7 (A.deeper (envOfC "taken_away" (defScope s_taken_away) s.heap.objs.size f cdv))) (hq : (A.deeper (envOfC "taken_away" (defScope s_taken_away) s.heap.objs.size f cdv)).guards = some []) :
    SSs ⟨K, vs, H⟩ (cxD P w K mg base N_taken_away "taken_away" (defScope s_taken_away) f cdv A outer s H E) (defBody s_taken_away) F_taken_away := by
  have hu1 := units1 hr
  have hu64 := hr.units
  have hu65 := units65 hr
  have hu80 := units80 hr
  have nd := sc_taken_away.nd
  exact ss_cons (s_expr (ee_call (by rfl) (d_check_two_figures W) hr hq (by decide) (eas_cons (ea_e (ee_var 0)) (eas_cons (ea_e (ee_var 1)) (eas_nil))) (by rfl))) (ss_cons (s_if (et_not (et_val (ee_call (by rfl) (d_is_within W) hr hq (by decide) (eas_cons (ea_e (ee_var 0)) (eas_cons (ea_e (ee_var 1)) (eas_nil))) (by rfl)))) (ss_one (s_ret (ee_non))) (ss_nil)) (ss_cons (s_set 2 nd (ee_call (by rfl) (d_left_without W) hr hq (by decide) (eas_cons (ea_e (ee_var 0)) (eas_cons (ea_e (ee_var 1)) (eas_nil))) (by rfl))) (ss_one (s_retR (er_if (et_cmp (by rfl) or_gt (ea_e (ee_callB (by rfl) cb_len (by rfl) W.g_len bt_len (eas_cons (ea_s 2) (eas_nil)))) (ea_e (ee_int))) (er_o 2) (er_e (ee_non)))))))
theorem d_taken_away {P : Program} {w : World} {K : PySem.W.Frag} {mg : Str → Option Value} {base : Heap} (W : World_ K mg) : Def P w K mg base "taken_away" s_taken_away ["figure", "other"] 8 φ_taken_away := by
  obtain ⟨f, fd, hm, D⟩ := W.f_taken_away
  have h := def_run (P := P) (w := w) (base := base) (k := 7) D hm sc_taken_away (fun _ _ _ _ _ _ us hl => match us, hl with | [_, _], _ => rfl) (b := F_taken_away) fun cdv A outer s H vs E hr hq => b_taken_away W hr hq
  exact h
/-! _law_right -/
def N__law_right : List Str := ["generator", "size", "far", "figure", "other", "kept", "due", "rest", "told", "left"]
def F__law_right : SF := seqF (unpF (callF φ__law_two [.s 0, .e (varF 1), .e (varF 2)]) (tupG 2 (consG (nameG 3) (consG (nameG 4) (nilG))))) (seqF (parF 3 4 (callF φ__law_shuffled [.s 0, .e (varF 3)]) (callF φ__law_shuffled [.s 0, .e (varF 4)])) (seqF (par3F 5 6 7 (opF opReprD [.e (lstF [varF 3, varF 4])]) (callF φ__law_put [.e (varF 3), .e (varF 4)]) (callF φ__law_kinds [.e (varF 3), .e (varF 4)])) (seqF (setF 8 (callF φ_put_together [.e (varF 3), .e (varF 4)])) (seqF (ifS (orF (boolF (opF opNeY [.s 8, .s 6])) (orF (boolF (opF opNeY [.e (callKF φ_put_together 2 [1, 0] [.e (varF 4), .e (varF 3)]), .s 6])) (boolF (opF opNeY [.e (callF φ_is_within_figure [.e (varF 3), .e (varF 4)]), .e (opF opIsNot [.s 7, .e (cF .none)])])))) (retF (cF (.bool false))) (nxF)) (seqF (setF 9 (ifF (andF (boolF (opF opIsNot [.s 7, .e (cF .none)])) (boolF (opF opNeY [.s 7, .e (dctF)]))) (varF 7) (cF .none))) (seqF (ifS (orF (boolF (opF opNeY [.e (callF φ_taken_away [.e (varF 3), .e (varF 4)]), .s 9])) (orF (boolF (opF opNeY [.e (callKF φ_taken_away 2 [1, 0] [.e (varF 4), .e (varF 3)]), .s 9])) (boolF (opF opNeY [.e (opF opReprD [.e (lstF [varF 3, varF 4])]), .s 5])))) (retF (cF (.bool false))) (nxF)) (seqF (ifS (andF (boolF (opF opIsNot [.s 6, .e (cF .none)])) (orF (boolF (opF opNeY [.e (callRF φ_halves_of [8] [.s 8]), .e (opF opAdd [.e (callF φ__law_halves [.e (varF 3)]), .e (callF φ__law_halves [.e (varF 4)])])])) (orF (boolF (opF opNeY [.e (callRF φ_taken_away [8] [.s 8, .e (varF 4)]), .s 3])) (boolF (opF opNeY [.e (callRF φ_taken_away [8] [.s 8, .e (varF 3)]), .s 4]))))) (retF (cF (.bool false))) (nxF)) (seqF (ifS (andF (boolF (opF opIsNot [.s 9, .e (cF .none)])) (orF (boolF (opF opNeY [.e (callF φ_put_together [.e (varF 9), .e (varF 4)]), .s 3])) (boolF (opF opIsNot [.e (callF φ_is_within_figure [.e (varF 3), .e (varF 9)]), .e (cF (.bool true))])))) (retF (cF (.bool false))) (nxF)) (seqF (ifS (boolF (opF opIsNot [.s 8, .e (cF .none)])) (putF 8 (tupF [opF opPow [.e (cF (.int 10)), .e (cF (.int 6))], cF (.int 0)]) (cF (.int 4))) (nxF)) (retF (andVF (opF opEqY [.e (callF φ_put_together [.e (varF 3), .e (varF 4)]), .s 6]) (opF opEqY [.e (opF opReprD [.e (lstF [varF 3, varF 4])]), .s 5]))))))))))))
def φ__law_right : Fn := runB 3 7 F__law_right
theorem sc__law_right : FnScope N__law_right ["generator", "size", "far"] (defScope s__law_right) := ⟨rfl, rfl, rfl, by decide +kernel, rfl, by decide +kernel, by decide +kernel⟩
theorem b__law_right {P : Program} {w : World} {K : PySem.W.Frag} {mg : Str → Option Value} {base : Heap} (W : World_ K mg) {cdv : Value} {A : Around} {outer : List L2Env} {s : Shared} {H : Hp} {vs : List V} {E : XK} {f : Addr} (hr : Room 8 (A.deeper (envOfC "_law_right" (defScope s__law_right) s.heap.objs.size f cdv))) (hq : (A.deeper (envOfC "_law_right" (defScope s__law_right) s.heap.objs.size f cdv)).guards = some []) :
    SSs ⟨K, vs, H⟩ (cxD P w K mg base N__law_right "_law_right" (defScope s__law_right) f cdv A outer s H E) (defBody s__law_right) F__law_right := by
  have hu1 := units1 hr
  have hu64 := hr.units
  have hu65 := units65 hr
  have hu80 := units80 hr
  have nd := sc__law_right.nd
  exact ss_cons (s_asg (ee_call (by rfl) (d__law_two W) hr hq (by decide) (eas_cons (ea_s 0) (eas_cons (ea_e (ee_var 1)) (eas_cons (ea_e (ee_var 2)) (eas_nil)))) (by rfl)) (g_tup (by rfl) (gs_cons (g_name 3 nd) (gs_cons (g_name 4 nd) (gs_nil))))) (ss_cons (s_par 3 4 nd (ee_call (by rfl) (d__law_shuffled W) hr hq (by decide) (eas_cons (ea_s 0) (eas_cons (ea_e (ee_var 3)) (eas_nil))) (by rfl)) (ee_call (by rfl) (d__law_shuffled W) hr hq (by decide) (eas_cons (ea_s 0) (eas_cons (ea_e (ee_var 4)) (eas_nil))) (by rfl))) (ss_cons (s_par3 5 6 7 nd (ee_callB (by rfl) (cb_reprD hu80 hq W.sys) (by rfl) W.g_repr bt_repr (eas_cons (ea_e (ee_lst (efs_cons (ee_var 3) (efs_cons (ee_var 4) (efs_nil))))) (eas_nil))) (ee_call (by rfl) (d__law_put W) hr hq (by decide) (eas_cons (ea_e (ee_var 3)) (eas_cons (ea_e (ee_var 4)) (eas_nil))) (by rfl)) (ee_call (by rfl) (d__law_kinds W) hr hq (by decide) (eas_cons (ea_e (ee_var 3)) (eas_cons (ea_e (ee_var 4)) (eas_nil))) (by rfl))) (ss_cons (s_set 8 nd (ee_call (by rfl) (d_put_together W) hr hq (by decide) (eas_cons (ea_e (ee_var 3)) (eas_cons (ea_e (ee_var 4)) (eas_nil))) (by rfl))) (ss_cons (s_if (et_w (ew_or (et_cmp (by rfl) (or_ney hu80) (ea_s 8) (ea_s 6)) (ew_or (et_cmp (by rfl) (or_ney hu80) (ea_e (ee_callK [1, 0] ["other", "figure"] (by rfl) (d_put_together W) hr hq (by decide) (fun _ _ _ _ _ _ ws hl => match ws, hl with | [_, _], _ => rfl) (ek_cons (ea_e (ee_var 4)) (ek_cons (ea_e (ee_var 3)) (ek_nil))) (by rfl))) (ea_s 6)) (ew_or1 (et_cmp (by rfl) (or_ney hu80) (ea_e (ee_call (by rfl) (d_is_within_figure W) hr hq (by decide) (eas_cons (ea_e (ee_var 3)) (eas_cons (ea_e (ee_var 4)) (eas_nil))) (by rfl))) (ea_e (ee_cmp (by rfl) or_isnot (ea_s 7) (ea_e (ee_non))))))))) (ss_one (s_ret (ee_bl))) (ss_nil)) (ss_cons (s_set 9 nd (ee_if (et_w (ew_and (et_cmp (by rfl) or_isnot (ea_s 7) (ea_e (ee_non))) (ew_and1 (et_cmp (by rfl) (or_ney hu80) (ea_s 7) (ea_e (ee_dct)))))) (ee_var 7) (ee_non))) (ss_cons (s_if (et_w (ew_or (et_cmp (by rfl) (or_ney hu80) (ea_e (ee_call (by rfl) (d_taken_away W) hr hq (by decide) (eas_cons (ea_e (ee_var 3)) (eas_cons (ea_e (ee_var 4)) (eas_nil))) (by rfl))) (ea_s 9)) (ew_or (et_cmp (by rfl) (or_ney hu80) (ea_e (ee_callK [1, 0] ["other", "figure"] (by rfl) (d_taken_away W) hr hq (by decide) (fun _ _ _ _ _ _ ws hl => match ws, hl with | [_, _], _ => rfl) (ek_cons (ea_e (ee_var 4)) (ek_cons (ea_e (ee_var 3)) (ek_nil))) (by rfl))) (ea_s 9)) (ew_or1 (et_cmp (by rfl) (or_ney hu80) (ea_e (ee_callB (by rfl) (cb_reprD hu80 hq W.sys) (by rfl) W.g_repr bt_repr (eas_cons (ea_e (ee_lst (efs_cons (ee_var 3) (efs_cons (ee_var 4) (efs_nil))))) (eas_nil)))) (ea_s 5)))))) (ss_one (s_ret (ee_bl))) (ss_nil)) (ss_cons (s_if (et_w (ew_and (et_cmp (by rfl) or_isnot (ea_s 6) (ea_e (ee_non))) (ew_and1 (et_w (ew_or (et_cmp (by rfl) (or_ney hu80) (ea_e (ee_callR [8] (by rfl) (d_halves_of W) hr hq (by decide) (eas_cons (ea_s 8) (eas_nil)) (by rfl))) (ea_e (ee_op (by rfl) or_add (ea_e (ee_call (by rfl) (d__law_halves W) hr hq (by decide) (eas_cons (ea_e (ee_var 3)) (eas_nil)) (by rfl))) (ea_e (ee_call (by rfl) (d__law_halves W) hr hq (by decide) (eas_cons (ea_e (ee_var 4)) (eas_nil)) (by rfl)))))) (ew_or (et_cmp (by rfl) (or_ney hu80) (ea_e (ee_callR [8] (by rfl) (d_taken_away W) hr hq (by decide) (eas_cons (ea_s 8) (eas_cons (ea_e (ee_var 4)) (eas_nil))) (by rfl))) (ea_s 3)) (ew_or1 (et_cmp (by rfl) (or_ney hu80) (ea_e (ee_callR [8] (by rfl) (d_taken_away W) hr hq (by decide) (eas_cons (ea_s 8) (eas_cons (ea_e (ee_var 3)) (eas_nil))) (by rfl))) (ea_s 4))))))))) (ss_one (s_ret (ee_bl))) (ss_nil)) (ss_cons (s_if (et_w (ew_and (et_cmp (by rfl) or_isnot (ea_s 9) (ea_e (ee_non))) (ew_and1 (et_w (ew_or (et_cmp (by rfl) (or_ney hu80) (ea_e (ee_call (by rfl) (d_put_together W) hr hq (by decide) (eas_cons (ea_e (ee_var 9)) (eas_cons (ea_e (ee_var 4)) (eas_nil))) (by rfl))) (ea_s 3)) (ew_or1 (et_cmp (by rfl) or_isnot (ea_e (ee_call (by rfl) (d_is_within_figure W) hr hq (by decide) (eas_cons (ea_e (ee_var 3)) (eas_cons (ea_e (ee_var 9)) (eas_nil))) (by rfl))) (ea_e (ee_bl))))))))) (ss_one (s_ret (ee_bl))) (ss_nil)) (ss_cons (s_if (et_cmp (by rfl) or_isnot (ea_s 8) (ea_e (ee_non))) (ss_one (s_put 8 rfl hu1 (ee_tup (efs_cons (ee_op (by rfl) or_pow (ea_e (ee_int)) (ea_e (ee_int))) (efs_cons (ee_int) (efs_nil)))) (ee_int))) (ss_nil)) (ss_one (s_ret (ee_and (ee_cmp (by rfl) (or_eqy hu80) (ea_e (ee_call (by rfl) (d_put_together W) hr hq (by decide) (eas_cons (ea_e (ee_var 3)) (eas_cons (ea_e (ee_var 4)) (eas_nil))) (by rfl))) (ea_s 6)) (ee_one (ee_cmp (by rfl) (or_eqy hu80) (ea_e (ee_callB (by rfl) (cb_reprD hu80 hq W.sys) (by rfl) W.g_repr bt_repr (eas_cons (ea_e (ee_lst (efs_cons (ee_var 3) (efs_cons (ee_var 4) (efs_nil))))) (eas_nil)))) (ea_s 5)))))))))))))))
theorem d__law_right {P : Program} {w : World} {K : PySem.W.Frag} {mg : Str → Option Value} {base : Heap} (W : World_ K mg) : Def P w K mg base "_law_right" s__law_right ["generator", "size", "far"] 9 φ__law_right := by
  obtain ⟨f, fd, hm, D⟩ := W.f__law_right
  have h := def_run (P := P) (w := w) (base := base) (k := 8) D hm sc__law_right (fun _ _ _ _ _ _ us hl => match us, hl with | [_, _, _], _ => rfl) (b := F__law_right) fun cdv A outer s H vs E hr hq => b__law_right W hr hq
  exact h
/-! law -/
def N_law : List Str := ["script", "index", "generator", "turn"]
def B_law_0 : SF := ifS (notF (boolF (callF φ__law_right [.s 2, .e (opF opIx [.e (lstF [cF (.int 40), cF (.int 20), cF (.int 12), cF (.int 6), cF (.int 3)]), .s 1]), .e (opF opIx [.e (lstF [cF (.int 1), cF (.int 3), cF (.int 40), cF (.int 160), cF (.int 12)]), .s 1])]))) (retF (cF (.bool false))) (nxF)
def B_law_1 : SF := seqF (setF 2 (callF φ__law_generator [.e (varF 0), .e (varF 1)])) (forF (range1I (cF (.int 4))) (nameG 3) (B_law_0))
def F_law : SF := seqF (forF (range1I (cF (.int 5))) (nameG 1) (B_law_1)) (retF (cF (.bool true)))
def φ_law : Fn := runB 1 3 F_law
theorem sc_law : FnScope N_law ["script"] (defScope s_law) := ⟨rfl, rfl, rfl, by decide +kernel, rfl, by decide +kernel, by decide +kernel⟩
theorem b_law {P : Program} {w : World} {K : PySem.W.Frag} {mg : Str → Option Value} {base : Heap} (W : World_ K mg) {cdv : Value} {A : Around} {outer : List L2Env} {s : Shared} {H : Hp} {vs : List V} {E : XK} {f : Addr} (hr : Room 9 (A.deeper (envOfC "law" (defScope s_law) s.heap.objs.size f cdv))) (hq : (A.deeper (envOfC "law" (defScope s_law) s.heap.objs.size f cdv)).guards = some []) :
    SSs ⟨K, vs, H⟩ (cxD P w K mg base N_law "law" (defScope s_law) f cdv A outer s H E) (defBody s_law) F_law := by
  have hu1 := units1 hr
  have hu64 := hr.units
  have hu65 := units65 hr
  have hu80 := units80 hr
  have nd := sc_law.nd
  exact ss_cons (s_for PassesOwn.never (ii_range1 (by rfl) W.g_range (ee_int)) (g_name 1 nd) (ss_cons (s_set 2 nd (ee_call (by rfl) (d__law_generator W) hr hq (by decide) (eas_cons (ea_e (ee_var 0)) (eas_cons (ea_e (ee_var 1)) (eas_nil))) (by rfl))) (ss_one (s_for PassesOwn.never (ii_range1 (by rfl) W.g_range (ee_int)) (g_name 3 nd) (ss_one (s_if (et_not (et_val (ee_call (by rfl) (d__law_right W) hr hq (by decide) (eas_cons (ea_s 2) (eas_cons (ea_e (ee_ix (by rfl) (ir_ix hu1) (ea_e (ee_lst (efs_cons (ee_int) (efs_cons (ee_int) (efs_cons (ee_int) (efs_cons (ee_int) (efs_cons (ee_int) (efs_nil)))))))) (ea_s 1))) (eas_cons (ea_e (ee_ix (by rfl) (ir_ix hu1) (ea_e (ee_lst (efs_cons (ee_int) (efs_cons (ee_int) (efs_cons (ee_int) (efs_cons (ee_int) (efs_cons (ee_int) (efs_nil)))))))) (ea_s 1))) (eas_nil)))) (by rfl)))) (ss_one (s_ret (ee_bl))) (ss_nil))))))) (ss_one (s_ret (ee_bl)))
theorem d_law {P : Program} {w : World} {K : PySem.W.Frag} {mg : Str → Option Value} {base : Heap} (W : World_ K mg) : Def P w K mg base "law" s_law ["script"] 10 φ_law := by
  obtain ⟨f, fd, hm, D⟩ := W.f_law
  have h := def_run (P := P) (w := w) (base := base) (k := 9) D hm sc_law (fun _ _ _ _ _ _ us hl => match us, hl with | [_], _ => rfl) (b := F_law) fun cdv A outer s H vs E hr hq => b_law W hr hq
  exact h
end PD
end

section
set_option maxHeartbeats 4000000
/-! PD22: the functions run, by simp. -/
namespace PD
open PySem PySem.Spec PyProof.Rows L2

@[simp] theorem runB_ok {n m : Nat} {b : SF} {args : List SV} (h : args.length = n) : runB n m b args = runO args (b (entryΓ m args)) := by
  unfold runB
  rw [if_pos h]
@[simp] theorem entryΓ_eq (m : Nat) (args : List SV) : entryΓ m args = args.map some ++ List.replicate m none := rfl
@[simp] theorem runO_rt (args : List SV) (r : RV) (Γ : Env) : runO args (.rt r Γ) = match outOf 0 args Γ with
    | some outs => .ok r outs
    | none => .bad := rfl
@[simp] theorem runO_nx (args : List SV) (Γ : Env) : runO args (.nx Γ) = match outOf 0 args Γ with
    | some outs => .ok (.fro .none) outs
    | none => .bad := rfl
@[simp] theorem outOf_nil (k : Nat) (Γ : Env) : outOf k [] Γ = some [] := rfl
@[simp] theorem outOf_fro (k : Nat) (d : PyData) (as : List SV) (Γ : Env) : outOf k (.fro d :: as) Γ = (outOf (k + 1) as Γ).map (.fro d :: ·) := rfl
@[simp] theorem outOf_own (k : Nat) (c : Own) (as : List SV) (Γ : Env) : outOf k (.own (some k) c :: as) Γ = match slotD k Γ with
    | some (.own (some j') c') => if j' = k then (outOf (k + 1) as Γ).map (.own (some k) c' :: ·) else none
    | _ => none := by
  show (if k = k then _ else none) = _
  rw [if_pos rfl] <;> rfl
def SO.andThen (o : SO) (g : Env → SO) : SO := match o with
  | .nx Γ => g Γ
  | .rt r Γ => .rt r Γ
  | .bk Γ => .bk Γ
  | .ct Γ => .ct Γ
  | .bad => .bad
@[simp] theorem seqF_eq (f g : SF) (Γ : Env) : seqF f g Γ = (f Γ).andThen g := by
  unfold seqF SO.andThen
  cases f Γ <;> rfl
@[simp] theorem andThen_nx (Γ : Env) (g : Env → SO) : (SO.nx Γ).andThen g = g Γ := rfl
@[simp] theorem andThen_rt (r : RV) (Γ : Env) (g : Env → SO) : (SO.rt r Γ).andThen g = .rt r Γ := rfl
@[simp] theorem andThen_bk (Γ : Env) (g : Env → SO) : (SO.bk Γ).andThen g = .bk Γ := rfl
@[simp] theorem andThen_ct (Γ : Env) (g : Env → SO) : (SO.ct Γ).andThen g = .ct Γ := rfl
@[simp] theorem nxF_eq (Γ : Env) : nxF Γ = .nx Γ := rfl
@[simp] theorem ifS_eq (t : TF) (f g : SF) (Γ : Env) : ifS t f g Γ = sof (t Γ) fun b Γ' => if b = true then f Γ' else g Γ' := rfl
@[simp] theorem setF_eq (i : Nat) (f : EF) (Γ : Env) : setF i f Γ = sof (f Γ) fun r Γ' => .nx (Γ'.set i (some r.sv)) := rfl
@[simp] theorem dropF_eq (f : EF) (Γ : Env) : dropF f Γ = sof (f Γ) fun _ Γ' => .nx Γ' := rfl
@[simp] theorem retF_eq (f : EF) (Γ : Env) : retF f Γ = sof (f Γ) fun r Γ' => .rt r Γ' := rfl
@[simp] theorem retO_eq (i : Nat) (Γ : Env) : retO i Γ = match slotD i Γ with
  | some (.own none c) => .rt (.nw c) (Γ.set i none)
  | some (.fro d) => .rt (.fro d) Γ
  | some (.own (some k) c) => .bad
  | none => .bad := rfl
@[simp] theorem parF_eq (i j : Nat) (f g : EF) (Γ : Env) : parF i j f g Γ = sof (f Γ) fun r Γ1 => sof (g Γ1) fun r' Γ2 => .nx ((Γ2.set i (some r.sv)).set j (some r'.sv)) := rfl
@[simp] theorem par3F_eq (i j l : Nat) (f g h : EF) (Γ : Env) : par3F i j l f g h Γ = sof (f Γ) fun r1 Γ1 => sof (g Γ1) fun r2 Γ2 => sof (h Γ2) fun r3 Γ3 => .nx (((Γ3.set i (some r1.sv)).set j (some r2.sv)).set l (some r3.sv)) := by
  unfold par3F
  simp only [evalRs]
  cases f Γ with
  | bad => rfl
  | ok r1 Γ1 =>
    simp only [Res.bind_ok, sof_ok]
    cases g Γ1 with
    | bad => rfl
    | ok r2 Γ2 =>
      simp only [Res.bind_ok, sof_ok]
      cases h Γ2 with
      | bad => rfl
      | ok r3 Γ3 => rfl
@[simp] theorem varF_eq (i : Nat) (Γ : Env) : varF i Γ = match slotD i Γ with
  | some (.fro d) => .ok (.fro d) Γ
  | some (.own _ c) => .ok (.fro c.toD) (Γ.set i (some (.fro c.toD)))
  | none => .bad := by
  unfold varF
  cases slotD i Γ with
  | none => rfl
  | some sv => cases sv <;> rfl
@[simp] theorem cF_eq (d : PyData) (Γ : Env) : cF d Γ = .ok (.fro d) Γ := rfl
@[simp] theorem slotD_zero (x : Option SV) (l : Env) : slotD 0 (x :: l) = x := rfl
@[simp] theorem slotD_succ (n : Nat) (x : Option SV) (l : Env) : slotD (n + 1) (x :: l) = slotD n l := rfl
@[simp] theorem opF_eq (op : List PyData → Option RV) (as : List ArgF) (Γ : Env) : opF op as Γ = (evalArgs as Γ).bind fun avs Γ' => (ofOpt (getAll avs Γ') Γ').bind fun ds Γ' => ofOpt (op ds) Γ' := rfl
@[simp] theorem evalArgs_nil (Γ : Env) : evalArgs [] Γ = .ok [] Γ := rfl
@[simp] theorem evalArgs_cons (a : ArgF) (as : List ArgF) (Γ : Env) : evalArgs (a :: as) Γ = (evalArg a Γ).bind fun v Γ1 => (evalArgs as Γ1).bind fun vs Γ2 => .ok (v :: vs) Γ2 := rfl
@[simp] theorem evalArg_e (f : EF) (Γ : Env) : evalArg (.e f) Γ = (f Γ).bind fun r Γ' => .ok (.d r.toD) Γ' := rfl
@[simp] theorem evalArg_s (i : Nat) (Γ : Env) : evalArg (.s i) Γ = (ofOpt (slotD i Γ) Γ).bind fun _ Γ' => .ok (.s i) Γ' := rfl
@[simp] theorem getAll_nil (Γ : Env) : getAll [] Γ = some [] := rfl
@[simp] theorem getAll_cons (a : AV) (as : List AV) (Γ : Env) : getAll (a :: as) Γ = (a.get Γ).bind fun d => (getAll as Γ).bind fun ds => some (d :: ds) := rfl
@[simp] theorem get_d (z : PyData) (Γ : Env) : (AV.d z).get Γ = some z := rfl
@[simp] theorem get_s (i : Nat) (Γ : Env) : (AV.s i).get Γ = (slotD i Γ).map SV.toD := rfl
@[simp] theorem toD_fro (d : PyData) : (RV.fro d).toD = d := rfl
@[simp] theorem toD_nw (c : Own) : (RV.nw c).toD = c.toD := rfl
@[simp] theorem sv_fro (d : PyData) : (RV.fro d).sv = .fro d := rfl
@[simp] theorem sv_nw (c : Own) : (RV.nw c).sv = .own none c := rfl
@[simp] theorem svD_fro (d : PyData) : (SV.fro d).toD = d := rfl
@[simp] theorem svD_own (t : Option Nat) (c : Own) : (SV.own t c).toD = c.toD := rfl
@[simp] theorem own_lst (ds : List PyData) : (Own.lst ds).toD = .list ds := rfl
@[simp] theorem own_dct (ds : List (PyData × PyData)) : (Own.dct ds).toD = .dict ds := rfl
@[simp] theorem boolF_eq (f : EF) (Γ : Env) : boolF f Γ = (f Γ).bind asB := rfl
@[simp] theorem notF_eq (f : TF) (Γ : Env) : notF f Γ = (f Γ).bind fun b Γ' => .ok (!b) Γ' := rfl
@[simp] theorem andF_eq (f g : TF) (Γ : Env) : andF f g Γ = (f Γ).bind fun b Γ' => if b = true then g Γ' else .ok false Γ' := rfl
@[simp] theorem orF_eq (f g : TF) (Γ : Env) : orF f g Γ = (f Γ).bind fun b Γ' => if b = true then .ok true Γ' else g Γ' := rfl
@[simp] theorem andVF_eq (f g : EF) (Γ : Env) : andVF f g Γ = (boolF f Γ).bind fun b Γ' => if b = true then g Γ' else .ok (.fro (.bool false)) Γ' := rfl
@[simp] theorem orVF_eq (f g : EF) (Γ : Env) : orVF f g Γ = (boolF f Γ).bind fun b Γ' => if b = true then .ok (.fro (.bool true)) Γ' else g Γ' := rfl
@[simp] theorem notVF_eq (f : EF) (Γ : Env) : notVF f Γ = (boolF f Γ).bind fun b Γ' => .ok (.fro (.bool (!b))) Γ' := rfl
@[simp] theorem ifF_eq (t : TF) (f g : EF) (Γ : Env) : ifF t f g Γ = (t Γ).bind fun b Γ' => if b = true then f Γ' else g Γ' := rfl
@[simp] theorem tupF_eq (fs : List EF) (Γ : Env) : tupF fs Γ = (evalFs fs Γ).bind fun ds Γ' => .ok (.fro (.tuple ds)) Γ' := rfl
@[simp] theorem lstF_eq (fs : List EF) (Γ : Env) : lstF fs Γ = (evalFs fs Γ).bind fun ds Γ' => .ok (.nw (.lst ds)) Γ' := rfl
@[simp] theorem dctF_eq (Γ : Env) : dctF Γ = .ok (.nw (.dct [])) Γ := rfl
@[simp] theorem evalFs_nil (Γ : Env) : evalFs [] Γ = .ok [] Γ := rfl
@[simp] theorem evalFs_cons (f : EF) (fs : List EF) (Γ : Env) : evalFs (f :: fs) Γ = (f Γ).bind fun r Γ1 => (evalFs fs Γ1).bind fun ds Γ2 => .ok (r.toD :: ds) Γ2 := rfl
@[simp] theorem chainF_eq (o o' : List PyData → Option RV) (a b c : EF) (Γ : Env) : chainF o o' a b c Γ = (a Γ).bind fun r1 Γ1 => (b Γ1).bind fun r2 Γ2 => (ofOpt (o [r1.toD, r2.toD]) Γ2).bind fun r Γ2 => (asB r Γ2).bind fun k Γ2 =>
  if k = true then (c Γ2).bind fun r3 Γ3 => (ofOpt (o' [r2.toD, r3.toD]) Γ3).bind fun r Γ3 => (asB r Γ3).bind fun k Γ3 => .ok (.fro (.bool k)) Γ3 else .ok (.fro (.bool false)) Γ2 := rfl
@[simp] theorem isiF_eq (T : String) (a : ArgF) (Γ : Env) : isiF T a Γ = (evalArg a Γ).bind fun av Γ' => (ofOpt (av.get Γ') Γ').bind fun d Γ' => .ok (.fro (.bool (isT T d))) Γ' := rfl
@[simp] theorem putF_eq (i : Nat) (kf vf : EF) (Γ : Env) : putF i kf vf Γ = sof (vf Γ) fun r Γ1 => sof (ofOpt (slotD i Γ1) Γ1) fun _ Γ1 => sof (kf Γ1) fun r' Γ2 => match slotD i Γ2 with
  | some (.own t c) => match putO c r'.toD r.toD with
    | some c' => .nx (Γ2.set i (some (.own t c')))
    | none => .bad
  | _ => .bad := rfl
@[simp] theorem methF_eq (i : Nat) (T : String) (om : OM) (as : List EF) (Γ : Env) : methF i T om as Γ = match slotD i Γ with
  | some (.own _ c0) => if ownTy c0 = T then (evalFs as Γ).bind fun ds Γ1 => match slotD i Γ1 with
    | some (.own t c) => (ofOpt (om c ds) Γ1).bind fun cr Γ1 => .ok (.fro cr.2) (Γ1.set i (some (.own t cr.1)))
    | _ => .bad
    else .bad
  | _ => .bad := rfl
@[simp] theorem callF_eq (φ : Fn) (as : List ArgF) (Γ : Env) : callF φ as Γ = (evalArgs as Γ).bind fun avs Γ1 => if (slotsOf avs).Nodup then (ofOpt (mkSV 0 avs Γ1) Γ1).bind fun svs Γ1 => match φ svs with
    | .ok r outs => (ofOpt (backs avs outs Γ1) Γ1).bind fun Γ2 _ => .ok r Γ2
    | .bad => .bad
  else .bad := rfl
@[simp] theorem callKF_eq (φ : Fn) (n : Nat) (perm : List Nat) (as : List ArgF) (Γ : Env) : callKF φ n perm as Γ = (evalArgs as Γ).bind fun bvs Γ1 => if (permL perm bvs).length = n ∧ (slotsOf (permL perm bvs)).Nodup then (ofOpt (mkSV 0 (permL perm bvs) Γ1) Γ1).bind fun svs Γ1 => match φ svs with
  | .ok r outs => (ofOpt (backs (permL perm bvs) outs Γ1) Γ1).bind fun Γ2 _ => .ok r Γ2
  | .bad => .bad
  else .bad := rfl
@[simp] theorem permL_nil {α : Type} (l : List α) : permL [] l = [] := rfl
@[simp] theorem permL_cons {α : Type} (j : Nat) (js : List Nat) (l : List α) : permL (j :: js) l = match l[j]? with
    | some x => x :: permL js l
    | none => permL js l := by
  unfold permL
  cases h : l[j]? with
  | none => rw [List.filterMap_cons_none h]
  | some x => rw [List.filterMap_cons_some h]
@[simp] theorem slotsOf_nil : slotsOf [] = [] := rfl
@[simp] theorem slotsOf_d (d : PyData) (as : List AV) : slotsOf (.d d :: as) = slotsOf as := rfl
@[simp] theorem slotsOf_s (i : Nat) (as : List AV) : slotsOf (.s i :: as) = i :: slotsOf as := rfl
@[simp] theorem mkSV_nil (k : Nat) (Γ : Env) : mkSV k [] Γ = some [] := rfl
@[simp] theorem mkSV_d (k : Nat) (d : PyData) (as : List AV) (Γ : Env) : mkSV k (.d d :: as) Γ = (mkSV (k + 1) as Γ).map (.fro d :: ·) := rfl
@[simp] theorem mkSV_s (k i : Nat) (as : List AV) (Γ : Env) : mkSV k (.s i :: as) Γ = match slotD i Γ with
    | some (.fro d) => (mkSV (k + 1) as Γ).map (.fro d :: ·)
    | some (.own _ c) => (mkSV (k + 1) as Γ).map (.own (some k) c :: ·)
    | none => none := by
  show (slotD i Γ).bind _ = _
  cases slotD i Γ with
  | none => rfl
  | some sv => cases sv <;> rfl
@[simp] theorem backs_nil (Γ : Env) : backs [] [] Γ = some Γ := rfl
@[simp] theorem backs_d (d : PyData) (as : List AV) (o : SV) (os : List SV) (Γ : Env) : backs (.d d :: as) (o :: os) Γ = backs as os Γ := rfl
@[simp] theorem backs_sf (i : Nat) (as : List AV) (d : PyData) (os : List SV) (Γ : Env) : backs (.s i :: as) (.fro d :: os) Γ = match slotD i Γ with
    | some (.fro _) => backs as os Γ
    | _ => none := rfl
@[simp] theorem opAdd_int (a b : Int) : opAdd [.int a, .int b] = some (.fro (.int (a + b))) := rfl
@[simp] theorem opSub_int (a b : Int) : opSub [.int a, .int b] = some (.fro (.int (a - b))) := rfl
theorem opMul_int (a b : Int) : opMul [.int a, .int b] = if mulOk a b = true then some (.fro (.int (a * b))) else none := rfl
@[simp] theorem opAbs_int (a : Int) : opAbs [.int a] = some (.fro (.int (if a < 0 then -a else a))) := rfl
@[simp] theorem opLen_list (xs : List PyData) : opLen [.list xs] = some (.fro (.int (xs.length : Nat))) := rfl

@[simp] theorem opFdiv_int (a b : Int) : opFdiv [.int a, .int b] = if 0 < b ∧ b.natAbs.log2 < 9000 then some (.fro (.int (a / b))) else none := rfl
@[simp] theorem opMod_int (a b : Int) : opMod [.int a, .int b] = if 0 < b then some (.fro (.int (a % b))) else none := rfl
@[simp] theorem opNeg_int (a : Int) : opNeg [.int a] = some (.fro (.int (-a))) := rfl
@[simp] theorem opLt_int (a b : Int) : opLt [.int a, .int b] = some (.fro (.bool (decide (a < b)))) := rfl
@[simp] theorem opLe_int (a b : Int) : opLe [.int a, .int b] = some (.fro (.bool (decide (a ≤ b)))) := rfl
@[simp] theorem opGt_int (a b : Int) : opGt [.int a, .int b] = some (.fro (.bool (decide (b < a)))) := rfl
@[simp] theorem opGe_int (a b : Int) : opGe [.int a, .int b] = some (.fro (.bool (decide (b ≤ a)))) := rfl
@[simp] theorem opInt_int (a : Int) : opInt [.int a] = some (.fro (.int a)) := rfl
@[simp] theorem opMax_int (a b : Int) : opMax [.int a, .int b] = some (.fro (.int (if b > a then b else a))) := rfl
@[simp] theorem opMin_int (a b : Int) : opMin [.int a, .int b] = some (.fro (.int (if b < a then b else a))) := rfl
@[simp] theorem shaped_int (a : Int) : SeqAt.shaped (.int a) = true := rfl
@[simp] theorem shaped_none : SeqAt.shaped .none = true := rfl
@[simp] theorem opEqX_int (a b : Int) : opEqX [.int a, .int b] = some (.fro (.bool (decide (a = b)))) := by
  unfold opEqX
  simp only [shaped_int, and_self, if_true]
  unfold PyData.eqv
  rfl
@[simp] theorem opNeX_int (a b : Int) : opNeX [.int a, .int b] = some (.fro (.bool (!decide (a = b)))) := by
  unfold opNeX
  simp only [shaped_int, and_self, if_true]
  unfold PyData.eqv
  rfl
@[simp] theorem opIx_list (xs : List PyData) (i : Int) : opIx [.list xs, .int i] = (atI xs i).map .fro := rfl
@[simp] theorem opIx_tup (xs : List PyData) (i : Int) : opIx [.tuple xs, .int i] = (atI xs i).map .fro := rfl
@[simp] theorem isT_int_int (a : Int) : isT "int" (.int a) = true := rfl
@[simp] theorem isT_bool_int (a : Int) : isT "bool" (.int a) = false := rfl

@[simp] theorem backs_so (i : Nat) (as : List AV) (t : Option Nat) (c : Own) (os : List SV) (Γ : Env) : backs (.s i :: as) (.own t c :: os) Γ = match slotD i Γ with
    | some (.own t0 _) => backs as os (Γ.set i (some (.own t0 c)))
    | _ => none := rfl
end PD
end

section
set_option maxHeartbeats 1000000
/-! PD23: loops, places, numbers, by lemma. -/
namespace PD
open PySem PySem.Spec PyProof.Rows L2
@[simp] theorem atI_0 (xs : List PyData) : atI xs 0 = xs[0]? := by
  cases xs with
  | nil => rfl
  | cons x xs =>
    unfold atI ixN
    rw [if_pos (by decide), if_pos (by rw [List.length_cons]; omega)]
    rfl
theorem atI_of (xs : List PyData) (k : Nat) : atI xs (k : Int) = xs[k]? := by
  unfold atI ixN
  rw [if_pos (by omega)]
  by_cases h : (k : Int) < (xs.length : Nat)
  · rw [if_pos h]
    rfl
  · rw [if_neg h, List.getElem?_eq_none (by omega)]
    rfl
@[simp] theorem atI_1 (xs : List PyData) : atI xs 1 = xs[1]? := atI_of xs 1
@[simp] theorem atI_2 (xs : List PyData) : atI xs 2 = xs[2]? := atI_of xs 2
@[simp] theorem atI_3 (xs : List PyData) : atI xs 3 = xs[3]? := atI_of xs 3
@[simp] theorem putO_lst (ds : List PyData) (i : Int) (v : PyData) : putO (.lst ds) (.int i) v = (ixN ds.length i).map fun j => .lst (ds.set j v) := rfl
@[simp] theorem ixN_0 (n : Nat) : ixN (n + 1) 0 = some 0 := by
  unfold ixN
  rw [if_pos (by decide), if_pos (by omega)]
  rfl
@[simp] theorem ixN_2 (n : Nat) : ixN (n + 3) 2 = some 2 := by
  unfold ixN
  rw [if_pos (by decide), if_pos (by omega)]
  rfl
theorem log2_of_lt {n k : Nat} (h : n < 2 ^ k) : n = 0 ∨ n.log2 < k := by
  by_cases hn : n = 0
  · exact .inl hn
  · exact .inr ((Nat.log2_lt hn).mpr h)
theorem log2_small {n : Nat} (h : n < 2 ^ 100) : n.log2 < 100 := by
  rcases log2_of_lt h with rfl | h
  · decide
  · exact h
@[simp] theorem forF_eq (it : IF) (g : GF) (body : SF) (Γ : Env) : forF it g body Γ = sof (it Γ) fun items Γ' => loopF g body items Γ' := rfl
@[simp] theorem range1I_eq (f : EF) (Γ : Env) : range1I f Γ = (f Γ).bind fun r Γ' => (ofOpt (asInt r.toD) Γ').bind fun j Γ' => if small62 j = true then .ok (rangeD 0 j.toNat) Γ' else .bad := rfl
@[simp] theorem range2I_eq (f g : EF) (Γ : Env) : range2I f g Γ = (f Γ).bind fun r Γ1 => (g Γ1).bind fun r' Γ' => (ofOpt (asInt r.toD) Γ').bind fun i Γ' => (ofOpt (asInt r'.toD) Γ').bind fun j Γ' => if small62 i && small62 j then .ok (rangeD i (j - i).toNat) Γ' else .bad := rfl
@[simp] theorem listI_eq (f : EF) (Γ : Env) : listI f Γ = (f Γ).bind asSeq := rfl
@[simp] theorem asInt_int (i : Int) : asInt (.int i) = some i := rfl
theorem small62_of {i : Int} (h1 : -1000000000000 ≤ i) (h2 : i ≤ 1000000000000) : small62 i = true := by
  have h : i.natAbs + 1 ≤ 4611686018427387904 := by omega
  exact Nat.ble_eq_true_of_le h
@[simp] theorem nameG_eq (i : Nat) (d : PyData) (Γ : Env) : nameG i d Γ = some (Γ.set i (some (.fro d))) := rfl
@[simp] theorem tupG_eq (n : Nat) (gs : GFs) (ds : List PyData) (Γ : Env) : tupG n gs (.tuple ds) Γ = if ds.length = n then gs ds Γ else none := rfl
@[simp] theorem consG_eq (g : GF) (gs : GFs) (d : PyData) (ds : List PyData) (Γ : Env) : consG g gs (d :: ds) Γ = (g d Γ).bind fun Γ' => gs ds Γ' := rfl
@[simp] theorem nilG_eq (Γ : Env) : nilG [] Γ = some Γ := rfl
@[simp] theorem unpF_eq (f : EF) (g : GF) (Γ : Env) : unpF f g Γ = sof (f Γ) fun r Γ' => match g r.toD Γ' with
  | some Γ2 => .nx Γ2
  | none => .bad := rfl
@[simp] theorem lcF_eq (vs : List Nat) (it : IF) (g : GF) (t : TF) (elt : EF) (Γ : Env) : lcF vs it g t elt Γ = (it Γ).bind fun items Γ1 => if small24 items.length = true then (lcL vs g t elt items (wipeE Γ1 vs)).bind fun ds Γ2 => .ok (.nw (.lst ds)) (backE Γ1 vs Γ2) else .bad := rfl
@[simp] theorem wipeE_nil (Γ : Env) : wipeE Γ [] = Γ := rfl
@[simp] theorem wipeE_cons (Γ : Env) (v : Nat) (vs : List Nat) : wipeE Γ (v :: vs) = (wipeE Γ vs).set v none := rfl
@[simp] theorem backE_nil (Γ0 Γ : Env) : backE Γ0 [] Γ = Γ := rfl
@[simp] theorem backE_cons (Γ0 Γ : Env) (v : Nat) (vs : List Nat) : backE Γ0 (v :: vs) Γ = (backE Γ0 vs Γ).set v ((Γ0[v]?).getD none) := rfl
@[simp] theorem yesF_eq (Γ : Env) : yesF Γ = .ok true Γ := rfl
theorem small24_of {n : Nat} (h : n ≤ 10000000) : small24 n = true := decide_eq_true (by omega)
@[simp] theorem omAppend_eq (xs : List PyData) (d : PyData) : omAppend (.lst xs) [d] = if small24 (xs.length + 1) = true then some (.lst (xs ++ [d]), .none) else none := rfl
@[simp] theorem ownTy_lst (ds : List PyData) : ownTy (.lst ds) = "list" := rfl
@[simp] theorem ownTy_dct (ds : List (PyData × PyData)) : ownTy (.dct ds) = "dict" := rfl
/-- one turn of a for loop -/
def turnF (g : GF) (body : SF) (d : PyData) (Γ : Env) : SO := match g d Γ with
  | none => .bad
  | some Γ1 => body Γ1
theorem loopF_cons (g : GF) (body : SF) (d : PyData) (ds : List PyData) (Γ : Env) : loopF g body (d :: ds) Γ = match turnF g body d Γ with
    | .nx Γ2 => loopF g body ds Γ2
    | .ct Γ2 => loopF g body ds Γ2
    | .bk Γ2 => .nx Γ2
    | .rt r Γ2 => .rt r Γ2
    | .bad => .bad := by
  show (match g d Γ with
    | none => _
    | some Γ1 => _) = _
  unfold turnF
  cases g d Γ with
  | none => rfl
  | some Γ1 =>
    simp only
    all_goals (cases body Γ1 <;> rfl)
/-- a for loop all of whose turns go on, by an invariant on the number of turns done -/
theorem loopF_inv {g : GF} {body : SF} {items : List PyData} (R : Nat → Env → Prop) {Γ0 : Env} (h0 : R 0 Γ0) (step : ∀ (i : Nat) d Γ, items[i]? = some d → R i Γ → ∃ Γ', turnF g body d Γ = .nx Γ' ∧ R (i + 1) Γ') :
    ∃ Γ', loopF g body items Γ0 = .nx Γ' ∧ R items.length Γ' := by
  induction items generalizing R Γ0 with
  | nil => exact ⟨Γ0, rfl, h0⟩
  | cons d ds ih =>
    obtain ⟨Γ1, e1, r1⟩ := step 0 d Γ0 rfl h0
    rw [loopF_cons, e1]
    obtain ⟨Γ', e, r⟩ := ih (fun i Γ => R (i + 1) Γ) r1 fun i d' Γ hd hr => step (i + 1) d' Γ (by simpa using hd) hr
    exact ⟨Γ', e, by simpa using r⟩
theorem loop_range {g : GF} {body : SF} {lo : Int} {n : Nat} (R : Nat → Env → Prop) {Γ0 : Env} (h0 : R 0 Γ0) (step : ∀ (i : Nat) Γ, i < n → R i Γ → ∃ Γ', turnF g body (.int (lo + (i : Nat))) Γ = .nx Γ' ∧ R (i + 1) Γ') :
    ∃ Γ', loopF g body (rangeD lo n) Γ0 = .nx Γ' ∧ R n Γ' := by
  obtain ⟨Γ', e, r⟩ := loopF_inv (items := rangeD lo n) (g := g) (body := body) R h0 fun i d Γ hd hr => by
    obtain ⟨hi, rfl⟩ := rangeD_get hd
    exact step i Γ hi hr
  exact ⟨Γ', e, by rwa [rangeD_length] at r⟩
/-- a comprehension whose turns leave the slots as they are -/
theorem lcL_pure {vs : List Nat} {g : GF} {t : TF} {elt : EF} {Γ : Env} (f : PyData → Option PyData) : ∀ {items : List PyData}, (∀ d ∈ items, ∃ Γ1 b, g d Γ = some Γ1 ∧ t Γ1 = .ok b Γ1 ∧ wipeE Γ1 vs = Γ ∧ (b = false → f d = none) ∧ (b = true → ∃ r Γ2, elt Γ1 = .ok r Γ2 ∧ wipeE Γ2 vs = Γ ∧ f d = some r.toD)) →
    lcL vs g t elt items Γ = .ok (items.filterMap f) Γ
  | [], _ => rfl
  | d :: ds, h => by
    obtain ⟨Γ1, b, e1, e2, e3, e4, e5⟩ := h d List.mem_cons_self
    have ih := lcL_pure (vs := vs) (g := g) (t := t) (elt := elt) (Γ := Γ) f (items := ds) fun d' hd => h d' (List.mem_cons_of_mem _ hd)
    unfold lcL
    rw [e1]
    simp only [e2, Res.bind_ok]
    cases b with
    | false =>
      rw [if_neg Bool.false_ne_true, e3, ih, List.filterMap_cons_none (e4 rfl)]
    | true =>
      obtain ⟨r, Γ2, q1, q2, q3⟩ := e5 rfl
      rw [if_pos rfl, q1]
      simp only [Res.bind_ok]
      rw [q2, ih]
      simp only [Res.bind_ok]
      rw [List.filterMap_cons_some q3]
/-- a while loop, one turn -/
theorem whileL_succ (t : TF) (body : SF) (n : Nat) (Γ : Env) : whileL t body (n + 1) Γ = sof (t Γ) fun b Γ1 => if b = true then match body Γ1 with
      | .nx Γ2 => whileL t body n Γ2
      | .ct Γ2 => whileL t body n Γ2
      | .bk Γ2 => .nx Γ2
      | .rt r Γ2 => .rt r Γ2
      | .bad => .bad
    else .nx Γ1 := rfl
@[simp] theorem whileF_eq (n : Nat) (t : TF) (body : SF) (Γ : Env) : whileF n t body Γ = whileL t body n Γ := rfl
end PD
end

section
set_option maxHeartbeats 1000000
/-! PD24: plain data: repr works, equality holds. -/
namespace PD
open PySem PySem.Spec PyProof.Rows L2
def plD : Nat → PyData → Bool
  | _, .none => true
  | _, .bool _ => true
  | _, .int i => decide (i.natAbs < 10 ^ 80)
  | n + 1, .list xs => xs.all (plD n)
  | n + 1, .tuple xs => xs.all (plD n)
  | _, _ => false
theorem pl_canAll {P : PyData → Bool} (h : ∀ d, P d = true → d.canLay0 = true) : ∀ xs : List PyData, xs.all P = true → PyData.canLayAll0 xs = true
  | [], _ => rfl
  | x :: xs, e => by
    rw [List.all_cons, Bool.and_eq_true] at e
    unfold PyData.canLayAll0
    rw [h x e.1, pl_canAll h xs e.2]
    rfl
theorem pl_can : ∀ (n : Nat) (d : PyData), plD n d = true → d.canLay0 = true
  | 0, .none, _ => rfl
  | 0, .bool _, _ => rfl
  | 0, .int _, _ => rfl
  | _ + 1, .none, _ => rfl
  | _ + 1, .bool _, _ => rfl
  | _ + 1, .int _, _ => rfl
  | n + 1, .list xs, h => by
    unfold PyData.canLay0
    exact pl_canAll (pl_can n) xs h
  | n + 1, .tuple xs, h => by
    unfold PyData.canLay0
    exact pl_canAll (pl_can n) xs h
  | 0, .list xs, h => nomatch h
  | 0, .tuple xs, h => nomatch h
  | 0, .str _, h => nomatch h
  | _ + 1, .str _, h => nomatch h
  | 0, .dict _, h => nomatch h
  | _ + 1, .dict _, h => nomatch h
theorem pl_depthAll {P : PyData → Bool} {n : Nat} (h : ∀ d, P d = true → d.depth ≤ n) : ∀ xs : List PyData, xs.all P = true → PyData.depthAll xs ≤ n
  | [], _ => by
    unfold PyData.depthAll
    exact Nat.zero_le _
  | x :: xs, e => by
    rw [List.all_cons, Bool.and_eq_true] at e
    unfold PyData.depthAll
    exact Nat.max_le.mpr ⟨h x e.1, pl_depthAll h xs e.2⟩
theorem pl_depth : ∀ (n : Nat) (d : PyData), plD n d = true → d.depth ≤ n
  | 0, .none, _ => Nat.le_refl _
  | 0, .bool _, _ => Nat.le_refl _
  | 0, .int _, _ => Nat.le_refl _
  | _ + 1, .none, _ => Nat.zero_le _
  | _ + 1, .bool _, _ => Nat.zero_le _
  | _ + 1, .int _, _ => Nat.zero_le _
  | n + 1, .list xs, h => by
    unfold PyData.depth
    exact Nat.succ_le_succ (pl_depthAll (pl_depth n) xs h)
  | n + 1, .tuple xs, h => by
    unfold PyData.depth
    exact Nat.succ_le_succ (pl_depthAll (pl_depth n) xs h)
  | 0, .list xs, h => nomatch h
  | 0, .tuple xs, h => nomatch h
  | 0, .str _, h => nomatch h
  | _ + 1, .str _, h => nomatch h
  | 0, .dict _, h => nomatch h
  | _ + 1, .dict _, h => nomatch h
theorem pl_shaped {n : Nat} {d : PyData} (h : plD n d = true) (hn : n ≤ 60) : SeqAt.shaped d = true := by
  unfold SeqAt.shaped
  rw [pl_can n d h, decide_eq_true (Nat.le_trans (pl_depth n d h) (by omega))]
  rfl
theorem pl_int {i : Int} (h : i.natAbs < 10 ^ 80) : i.natAbs.log2 < 1920 := by
  rcases log2_of_lt (n := i.natAbs) (k := 1920) (Nat.lt_of_lt_of_le h (by decide +kernel)) with z | z
  · rw [z]
    decide
  · exact z
theorem pl_showAll {P : PyData → Bool} (h : ∀ d, P d = true → d.showable = true) : ∀ xs : List PyData, xs.all P = true → PyData.showableAll xs = true
  | [], _ => rfl
  | x :: xs, e => by
    rw [List.all_cons, Bool.and_eq_true] at e
    unfold PyData.showableAll
    rw [h x e.1, pl_showAll h xs e.2]
    rfl
theorem pl_show : ∀ (n : Nat) (d : PyData), plD n d = true → d.showable = true
  | 0, .none, _ => rfl
  | 0, .bool _, _ => rfl
  | 0, .int _, h => by
    unfold PyData.showable
    exact decide_eq_true (pl_int (of_decide_eq_true h))
  | _ + 1, .none, _ => rfl
  | _ + 1, .bool _, _ => rfl
  | _ + 1, .int _, h => by
    unfold PyData.showable
    exact decide_eq_true (pl_int (of_decide_eq_true h))
  | n + 1, .list xs, h => by
    unfold PyData.showable
    exact pl_showAll (pl_show n) xs h
  | n + 1, .tuple xs, h => by
    unfold PyData.showable
    exact pl_showAll (pl_show n) xs h
  | 0, .list xs, h => nomatch h
  | 0, .tuple xs, h => nomatch h
  | 0, .str _, h => nomatch h
  | _ + 1, .str _, h => nomatch h
  | 0, .dict _, h => nomatch h
  | _ + 1, .dict _, h => nomatch h
theorem pl_leaf {i : Int} (h : i.natAbs < 10 ^ 80) : (PyData.shown (.int i)).length ≤ 81 := by
  have e := int_text_length_le10 (k := 80) (by decide) h
  show (Str.ofString (toString i)).length ≤ 81
  rw [PySem.ofString_length]
  exact e
theorem pl_leafAll {P : PyData → Bool} (h : ∀ d, P d = true → d.leavesShort 81 = true) : ∀ xs : List PyData, xs.all P = true → PyData.leavesShortAll 81 xs = true
  | [], _ => rfl
  | x :: xs, e => by
    rw [List.all_cons, Bool.and_eq_true] at e
    unfold PyData.leavesShortAll
    rw [h x e.1, pl_leafAll h xs e.2]
    rfl
theorem pl_short : ∀ (n : Nat) (d : PyData), plD n d = true → d.leavesShort 81 = true
  | 0, .none, _ => rfl
  | 0, .bool _, _ => rfl
  | 0, .int _, h => by
    unfold PyData.leavesShort
    exact decide_eq_true (pl_leaf (of_decide_eq_true h))
  | _ + 1, .none, _ => rfl
  | _ + 1, .bool _, _ => rfl
  | _ + 1, .int _, h => by
    unfold PyData.leavesShort
    exact decide_eq_true (pl_leaf (of_decide_eq_true h))
  | n + 1, .list xs, h => by
    unfold PyData.leavesShort
    exact pl_leafAll (pl_short n) xs h
  | n + 1, .tuple xs, h => by
    unfold PyData.leavesShort
    exact pl_leafAll (pl_short n) xs h
  | 0, .list xs, h => nomatch h
  | 0, .tuple xs, h => nomatch h
  | 0, .str _, h => nomatch h
  | _ + 1, .str _, h => nomatch h
  | 0, .dict _, h => nomatch h
  | _ + 1, .dict _, h => nomatch h
theorem pl_len {n : Nat} {d : PyData} (h : plD n d = true) (hb : d.bulk ≤ 200000) : small24 d.shown.length = true := by
  have e := PyData.shown_le_bulk 81 (by decide) d (pl_short n d h)
  have e2 : (81 + 2) * d.bulk ≤ 83 * 200000 := Nat.mul_le_mul (by omega) hb
  exact decide_eq_true (by omega)
/-! ### the text shown is a text -/
def lowS (x : Str) : Prop := ∀ c ∈ x.cps.toList, c < 0x110000
theorem lowS_append {a b : Str} (h1 : lowS a) (h2 : lowS b) : lowS (a ++ b) := fun c hc => (mem_cps_append.mp hc).elim (h1 c) (h2 c)
theorem lowS_join {ts : List Str} (h : ∀ t ∈ ts, lowS t) : lowS (Str.join ", " ts) := fun c hc => ((mem_join _ c ts).mp hc).elim (fun ⟨t, ht, hc⟩ => h t ht c hc) fun ⟨_, hc⟩ => by
  rw [signs_sep] at hc
  simp at hc
  omega
theorem lowS_dec {x : Str} (h : (x.cps.toList.all fun c => decide (c < 0x110000)) = true) : lowS x := fun c hc => of_decide_eq_true (List.all_eq_true.mp h c hc)
theorem lowS_int (i : Int) : lowS (PyData.int i).shown := fun c hc => by
  by_cases h : c < 0x110000
  · exact h
  · exact absurd hc (shown_int_free' ⟨by omega, .inr (by omega)⟩ i)
theorem pl_lowAll {P : PyData → Bool} (h : ∀ d, P d = true → lowS d.shown) : ∀ xs : List PyData, xs.all P = true → ∀ t ∈ PyData.shownAll xs, lowS t
  | [], _, t, ht => by
    rw [PyData.shownAll_nil] at ht
    exact absurd ht List.not_mem_nil
  | x :: xs, e, t, ht => by
    rw [List.all_cons, Bool.and_eq_true] at e
    rw [PyData.shownAll_cons, List.mem_cons] at ht
    rcases ht with z | z
    · rw [z]
      exact h x e.1
    · exact pl_lowAll h xs e.2 t z
theorem pl_low_none : lowS (PyData.none).shown := by
  rw [PyData.shown_none]
  exact lowS_dec (by decide)
theorem pl_low_bool (b : Bool) : lowS (PyData.bool b).shown := by
  rw [PyData.shown_bool]
  cases b
  · exact lowS_dec (by decide)
  · exact lowS_dec (by decide)
theorem pl_low : ∀ (n : Nat) (d : PyData), plD n d = true → lowS d.shown
  | 0, .none, _ => pl_low_none
  | 0, .bool b, _ => pl_low_bool b
  | 0, .int i, h => lowS_int i
  | _ + 1, .none, _ => pl_low_none
  | _ + 1, .bool b, _ => pl_low_bool b
  | _ + 1, .int i, h => lowS_int i
  | n + 1, .list xs, h => by
    rw [PyData.shown_list]
    exact lowS_append (lowS_append (lowS_dec (by decide)) (lowS_join (pl_lowAll (pl_low n) xs h))) (lowS_dec (by decide))
  | n + 1, .tuple xs, h => by
    rw [PyData.shown_tuple]
    refine lowS_append (lowS_append (lowS_dec (by decide)) (lowS_join (pl_lowAll (pl_low n) xs h))) ?_
    split
    · exact lowS_dec (by decide)
    · exact lowS_dec (by decide)
  | 0, .list xs, h => nomatch h
  | 0, .tuple xs, h => nomatch h
  | 0, .str _, h => nomatch h
  | _ + 1, .str _, h => nomatch h
  | 0, .dict _, h => nomatch h
  | _ + 1, .dict _, h => nomatch h
theorem pl_text {n : Nat} {d : PyData} (h : plD n d = true) : SeqAt.shaped (.str d.shown) = true := by
  unfold SeqAt.shaped
  have e : PyData.strOk d.shown = true := by
    unfold PyData.strOk
    exact Array.all_eq_true_iff_forall_mem.mpr fun c hc => decide_eq_true (pl_low n d h c (Array.mem_toList_iff.mpr hc))
  have e2 : (PyData.str d.shown).canLay0 = true := e
  rw [e2]
  rfl
/-- repr works at plain data -/
theorem repr_ok {n : Nat} {d : PyData} (h : plD n d = true) (hn : n ≤ 60) (hs : isSeqD d = true) (hb : d.bulk ≤ 200000) : opRepr [d] = some (.fro (.str d.shown)) :=
  if_pos (by rw [hs, pl_shaped h hn, pl_show n d h, pl_len h hb]; rfl)
theorem nex_same {d : PyData} (h : SeqAt.shaped d = true) : opNeX [d, d] = some (.fro (.bool false)) := by
  have e := SeqAt.eqv_refl d (SeqAt.canLay_of_shaped h)
  show (if _ then _ else _) = _
  rw [if_pos ⟨h, h⟩, e]
  rfl
theorem eqx_same {d : PyData} (h : SeqAt.shaped d = true) : opEqX [d, d] = some (.fro (.bool true)) := by
  have e := SeqAt.eqv_refl d (SeqAt.canLay_of_shaped h)
  show (if _ then _ else _) = _
  rw [if_pos ⟨h, h⟩, e]
theorem repr_ne {n : Nat} {d : PyData} (h : plD n d = true) : opNeX [.str d.shown, .str d.shown] = some (.fro (.bool false)) := nex_same (pl_text h)
theorem nex_pl {n : Nat} {d : PyData} (h : plD n d = true) (hn : n ≤ 60) : opNeX [d, d] = some (.fro (.bool false)) := nex_same (pl_shaped h hn)
theorem bulk_all {k : Nat} : ∀ {xs : List PyData}, (∀ d ∈ xs, d.bulk ≤ k) → PyData.bulkAll xs ≤ (k + 1) * xs.length
  | [], _ => Nat.zero_le _
  | x :: xs, h => by
    have h1 := h x List.mem_cons_self
    have h2 := bulk_all fun d hd => h d (List.mem_cons_of_mem _ hd)
    unfold PyData.bulkAll
    rw [List.length_cons, Nat.mul_succ]
    omega
end PD
end

section
set_option maxHeartbeats 1000000
/-! PD25: dicts whose keys are cells (two whole numbers). -/
namespace PD
open PySem PySem.Spec PyProof.Rows L2
abbrev Cell := Int × Int
def ckey (p : Cell) : PyData := .tuple [.int p.1, .int p.2]
/-- a figure all of whose cells hold 4 -/
def fourD (l : List Cell) : List (PyData × PyData) := l.map fun p => (ckey p, .int 4)
@[simp] theorem eqv_ckey (p q : Cell) : PyData.eqv (ckey p) (ckey q) = decide (p = q) := by
  obtain ⟨a, b⟩ := p
  obtain ⟨c, d⟩ := q
  unfold ckey
  simp only [PyData.eqv, PyData.eqvAll, Bool.and_true]
  rw [Bool.eq_iff_iff]
  simp
theorem ckey_inj {p q : Cell} (h : ckey p = ckey q) : p = q := by
  obtain ⟨a, b⟩ := p
  obtain ⟨c, d⟩ := q
  unfold ckey at h
  injection h with h
  injection h with h1 h2
  injection h1 with h1
  injection h2 with h2 _
  injection h2 with h2
  exact Prod.ext h1 h2
theorem four_len (l : List Cell) : (fourD l).length = l.length := by
  unfold fourD
  rw [List.length_map]
theorem dget_four (p : Cell) : ∀ l : List Cell, dget (fourD l) (ckey p) = if p ∈ l then some (.int 4) else none
  | [] => rfl
  | q :: l => by
    have ih := dget_four p l
    unfold dget fourD at *
    rw [List.map_cons, List.find?_cons]
    simp only [eqv_ckey]
    by_cases h : q = p
    · subst h
      simp
    · have h2 : ¬ p = q := fun z => h z.symm
      rw [decide_eq_false h]
      simp only [ih, List.mem_cons, h2, false_or]
theorem any_four (p : Cell) (l : List Cell) : ((fourD l).any fun q => PyData.eqv q.1 (ckey p)) = decide (p ∈ l) := by
  unfold fourD
  rw [List.any_map, Bool.eq_iff_iff, List.any_eq_true]
  simp only [Function.comp, eqv_ckey, decide_eq_true_eq]
  constructor
  · rintro ⟨q, hq, rfl⟩
    exact hq
  · intro h
    exact ⟨p, h, rfl⟩
theorem dput_four {p : Cell} {l : List Cell} (h : p ∉ l) : dput (fourD l) (ckey p) (.int 4) = fourD (l ++ [p]) := by
  unfold dput
  rw [any_four, if_neg (by simpa using h)]
  unfold fourD
  rw [List.map_append]
  rfl
theorem keysOf_ckey (p : Cell) : (match ckey p with
    | .tuple ks => (keysOf ks).isSome
    | _ => false) = true := rfl
theorem putO_four {p : Cell} {l : List Cell} (h : p ∉ l) (hl : l.length ≤ 1000000) : putO (.dct (fourD l)) (ckey p) (.int 4) = some (.dct (fourD (l ++ [p]))) := by
  have e : okKey (.dct (fourD l)) (ckey p) = true := rfl
  have z : small24 ((fourD l).length + 1) = true := small24_of (by rw [four_len]; omega)
  show (if _ then _ else _) = _
  rw [e, z, dput_four h]
  rfl
theorem notIn_four (p : Cell) (l : List Cell) : opNotIn [ckey p, .dict (fourD l)] = some (.fro (.bool (!decide (p ∈ l)))) := by
  have e : inD [ckey p, .dict (fourD l)] = some (dget (fourD l) (ckey p)).isSome := if_pos ⟨rfl, by
    unfold fourD
    rw [List.all_map, List.all_eq_true]
    intro q _
    rfl⟩
  unfold opNotIn
  rw [e, dget_four]
  by_cases h : p ∈ l
  · rw [if_pos h, decide_eq_true h]
    rfl
  · rw [if_neg h, decide_eq_false h]
    rfl
theorem same_four (n : Nat) (l : List Cell) : sameN (n + 2) (.dict (fourD l)) (.dict (fourD l)) = true := by
  unfold sameN
  rw [Bool.or_eq_true]
  right
  rw [Bool.and_eq_true]
  refine ⟨by simp, ?_⟩
  rw [List.all_eq_true]
  intro q hq
  unfold fourD at hq
  obtain ⟨p, hp, rfl⟩ := List.mem_map.mp hq
  simp only
  rw [dget_four, if_pos hp]
  simp only
  unfold sameN
  rfl
theorem nex_fours (a b : List Cell) : opNeX [.tuple [.dict (fourD a), .dict (fourD b)], .tuple [.dict (fourD a), .dict (fourD b)]] = some (.fro (.bool false)) := by
  have n1 : SeqAt.shaped (.tuple [.dict (fourD a), .dict (fourD b)]) = false := rfl
  have s : sameN 8 (.tuple [.dict (fourD a), .dict (fourD b)]) (.tuple [.dict (fourD a), .dict (fourD b)]) = true := by
    unfold sameN
    rw [Bool.or_eq_true]
    right
    simp [same_four]
  unfold opNeX
  simp only [n1, s, isLst]
  simp
theorem nex_four (a : List Cell) : opNeX [.dict (fourD a), .dict (fourD a)] = some (.fro (.bool false)) := by
  have n1 : SeqAt.shaped (.dict (fourD a)) = false := rfl
  unfold opNeX
  simp only [n1, same_four, isLst]
  simp
end PD
end

section
set_option maxHeartbeats 1000000
/-! PF1: figures: dicts from cells to whole numbers, by lists of entries. -/
namespace PD
open PySem PySem.Spec PyProof.Rows L2
abbrev FigL := List (Cell × Int)
def figD (l : FigL) : List (PyData × PyData) := l.map fun p => (ckey p.1, .int p.2)
def fget : FigL → Cell → Option Int
  | [], _ => none
  | q :: l, p => if q.1 = p then some q.2 else fget l p
def fkeys (l : FigL) : List Cell := l.map (·.1)
def fput (l : FigL) (p : Cell) (v : Int) : FigL := if p ∈ fkeys l then l.map (fun q => if q.1 = p then (q.1, v) else q) else l ++ [(p, v)]
@[simp] theorem fget_nil (p : Cell) : fget [] p = none := rfl
theorem fget_cons (q : Cell × Int) (l : FigL) (p : Cell) : fget (q :: l) p = if q.1 = p then some q.2 else fget l p := rfl
@[simp] theorem fkeys_nil : fkeys [] = [] := rfl
@[simp] theorem fkeys_cons (q : Cell × Int) (l : FigL) : fkeys (q :: l) = q.1 :: fkeys l := rfl
@[simp] theorem fkeys_append (a b : FigL) : fkeys (a ++ b) = fkeys a ++ fkeys b := List.map_append
theorem fkeys_length (a : FigL) : (fkeys a).length = a.length := List.length_map _
theorem fget_none : ∀ {l : FigL} {p : Cell}, fget l p = none ↔ p ∉ fkeys l
  | [], p => by simp
  | q :: l, p => by
    rw [fget_cons, fkeys_cons, List.mem_cons, not_or]
    by_cases h : q.1 = p
    · rw [if_pos h]
      simp [h]
    · rw [if_neg h, fget_none]
      exact ⟨fun z => ⟨fun y => h y.symm, z⟩, fun z => z.2⟩
theorem fget_isSome {l : FigL} {p : Cell} : (fget l p).isSome = decide (p ∈ fkeys l) := by
  rw [Bool.eq_iff_iff, decide_eq_true_iff]
  cases h : fget l p with
  | none => simp [fget_none.mp h]
  | some v =>
    have : ¬ fget l p = none := by rw [h]; simp
    rw [fget_none] at this
    simp only [Option.isSome_some, true_iff]
    exact Classical.not_not.mp this
theorem fget_mem : ∀ {l : FigL} {p : Cell} {v : Int}, fget l p = some v → (p, v) ∈ l
  | q :: l, p, v, h => by
    rw [fget_cons] at h
    split at h
    · rename_i e
      cases h
      rw [← e]
      exact List.mem_cons_self
    · exact List.mem_cons_of_mem _ (fget_mem h)
theorem fget_key {l : FigL} {p : Cell} {v : Int} (h : fget l p = some v) : p ∈ fkeys l := List.mem_map_of_mem (f := (·.1)) (fget_mem h)
theorem fget_of_mem : ∀ {l : FigL} {p : Cell} {v : Int}, (fkeys l).Nodup → (p, v) ∈ l → fget l p = some v
  | q :: l, p, v, nd, h => by
    rw [fget_cons]
    rw [fkeys_cons, List.nodup_cons] at nd
    rcases List.mem_cons.mp h with e | h
    · rw [← e, if_pos rfl]
    · have hn : q.1 ≠ p := fun z => nd.1 (z ▸ List.mem_map_of_mem (f := (·.1)) h)
      rw [if_neg hn]
      exact fget_of_mem nd.2 h
theorem fget_at {l : FigL} {q : Cell × Int} (nd : (fkeys l).Nodup) (h : q ∈ l) : fget l q.1 = some q.2 := fget_of_mem nd h
theorem fget_append : ∀ (a b : FigL) (p : Cell), fget (a ++ b) p = (fget a p).or (fget b p)
  | [], b, p => rfl
  | q :: a, b, p => by
    rw [List.cons_append, fget_cons, fget_cons]
    by_cases h : q.1 = p
    · rw [if_pos h, if_pos h]
      rfl
    · rw [if_neg h, if_neg h]
      exact fget_append a b p
theorem fget_rep : ∀ (l : FigL) (p : Cell) (v : Int) (r : Cell), fget (l.map (fun q => if q.1 = p then (q.1, v) else q)) r = if r = p then (fget l p).map (fun _ => v) else fget l r
  | [], p, v, r => by simp
  | q :: l, p, v, r => by
    have ih := fget_rep l p v r
    rw [List.map_cons, fget_cons, fget_cons, fget_cons, ih]
    by_cases hq : q.1 = p
    · simp only [if_pos hq]
      by_cases hr : r = p
      · simp [hr, hq]
      · have : ¬ q.1 = r := fun z => hr (z.symm.trans hq)
        simp [hr, this]
    · simp only [if_neg hq]
      by_cases hr : r = p
      · have : ¬ q.1 = r := fun z => hq (z.trans hr)
        simp [hr, hq]
      · simp [hr]
theorem fget_put (l : FigL) (p : Cell) (v : Int) (r : Cell) : fget (fput l p v) r = if r = p then some v else fget l r := by
  unfold fput
  by_cases h : p ∈ fkeys l
  · rw [if_pos h, fget_rep]
    by_cases hr : r = p
    · rw [if_pos hr, if_pos hr]
      cases e : fget l p with
      | none => exact absurd h (fget_none.mp e)
      | some w => rfl
    · rw [if_neg hr, if_neg hr]
  · rw [if_neg h, fget_append]
    by_cases hr : r = p
    · subst hr
      rw [fget_none.mpr h, if_pos rfl]
      simp [fget_cons]
    · rw [if_neg hr]
      have : ¬ p = r := fun z => hr z.symm
      simp [fget_cons, this]
theorem fkeys_put (l : FigL) (p : Cell) (v : Int) : fkeys (fput l p v) = if p ∈ fkeys l then fkeys l else fkeys l ++ [p] := by
  unfold fput
  split
  · unfold fkeys
    rw [List.map_map]
    congr 1
    funext q
    simp only [Function.comp]
    split <;> rfl
  · simp
theorem fput_nodup {l : FigL} {p : Cell} {v : Int} (h : (fkeys l).Nodup) : (fkeys (fput l p v)).Nodup := by
  rw [fkeys_put]
  split
  · exact h
  · rename_i n
    rw [List.nodup_append]
    refine ⟨h, by simp, fun a ha b hb => ?_⟩
    simp only [List.mem_singleton] at hb
    subst hb
    exact fun z => n (z ▸ ha)
theorem fput_length (l : FigL) (p : Cell) (v : Int) : (fput l p v).length ≤ l.length + 1 := by
  unfold fput
  split <;> simp
theorem fput_new {l : FigL} {p : Cell} {v : Int} (h : p ∉ fkeys l) : fput l p v = l ++ [(p, v)] := if_neg h
theorem fput_ne (l : FigL) (p : Cell) (v : Int) : fput l p v ≠ [] := by
  unfold fput
  split
  · rename_i h
    cases l with
    | nil => simp at h
    | cons q l => simp
  · simp
theorem fput_mem {l : FigL} {p : Cell} {v : Int} {q : Cell × Int} (h : q ∈ fput l p v) : q = (p, v) ∨ q ∈ l := by
  unfold fput at h
  split at h
  · obtain ⟨r, hr, e⟩ := List.mem_map.mp h
    split at e
    · rename_i e2
      left
      rw [← e, e2]
    · right
      rw [← e]
      exact hr
  · rcases List.mem_append.mp h with h | h
    · exact .inr h
    · exact .inl (by simpa using h)
/-! ### as data -/
theorem figD_len (l : FigL) : (figD l).length = l.length := List.length_map _
theorem figD_fst (l : FigL) : (figD l).map (·.1) = l.map fun q => ckey q.1 := by
  unfold figD
  rw [List.map_map]
  rfl
theorem figD_append (a b : FigL) : figD (a ++ b) = figD a ++ figD b := List.map_append
theorem dget_fig (p : Cell) : ∀ l : FigL, dget (figD l) (ckey p) = (fget l p).map .int
  | [] => rfl
  | q :: l => by
    have ih := dget_fig p l
    unfold dget figD at *
    rw [List.map_cons, List.find?_cons]
    simp only [eqv_ckey]
    rw [fget_cons]
    by_cases h : q.1 = p
    · rw [decide_eq_true h, if_pos h]
      rfl
    · rw [decide_eq_false h, if_neg h]
      exact ih
theorem any_fig (p : Cell) (l : FigL) : ((figD l).any fun q => PyData.eqv q.1 (ckey p)) = decide (p ∈ fkeys l) := by
  unfold figD fkeys
  rw [List.any_map, Bool.eq_iff_iff, List.any_eq_true]
  simp only [Function.comp, eqv_ckey, decide_eq_true_eq, List.mem_map]
theorem dput_fig (l : FigL) (p : Cell) (v : Int) : dput (figD l) (ckey p) (.int v) = figD (fput l p v) := by
  unfold dput fput
  rw [any_fig]
  by_cases h : p ∈ fkeys l
  · rw [if_pos h, if_pos (decide_eq_true h)]
    unfold figD
    rw [List.map_map, List.map_map]
    congr 1
    funext q
    simp only [Function.comp, eqv_ckey, decide_eq_true_eq]
    split <;> rfl
  · rw [if_neg h, if_neg (by simpa using h), figD_append]
    rfl
theorem ckey_eq (r c : Int) : PyData.tuple [.int r, .int c] = ckey (r, c) := rfl
theorem putO_fig {l : FigL} (p : Cell) (v : Int) (hl : l.length ≤ 1000000) : putO (.dct (figD l)) (ckey p) (.int v) = some (.dct (figD (fput l p v))) := by
  have e : okKey (.dct (figD l)) (ckey p) = true := rfl
  have z : small24 ((figD l).length + 1) = true := small24_of (by rw [figD_len]; omega)
  show (if _ then _ else _) = _
  rw [e, z, dput_fig]
  rfl
theorem putO_figN (p : Cell) (v : Int) : putO (.dct []) (ckey p) (.int v) = some (.dct (figD [(p, v)])) := putO_fig (l := []) p v (by decide)
theorem inD_fig (p : Cell) (l : FigL) : inD [ckey p, .dict (figD l)] = some (decide (p ∈ fkeys l)) := by
  have e : inD [ckey p, .dict (figD l)] = some (dget (figD l) (ckey p)).isSome := if_pos ⟨rfl, by
    unfold figD
    rw [List.all_map, List.all_eq_true]
    intro q _
    rfl⟩
  rw [e, dget_fig, Option.isSome_map, fget_isSome]
@[simp] theorem in_fig (p : Cell) (l : FigL) : opIn [ckey p, .dict (figD l)] = some (.fro (.bool (decide (p ∈ fkeys l)))) := by
  unfold opIn
  rw [inD_fig]
  rfl
@[simp] theorem notIn_fig (p : Cell) (l : FigL) : opNotIn [ckey p, .dict (figD l)] = some (.fro (.bool (!decide (p ∈ fkeys l)))) := by
  unfold opNotIn
  rw [inD_fig]
  rfl
@[simp] theorem ix_fig (p : Cell) (l : FigL) : opIx [.dict (figD l), ckey p] = (fget l p).map fun v => .fro (.int v) := by
  have e : opIx [.dict (figD l), ckey p] = (dget (figD l) (ckey p)).map .fro := rfl
  rw [e, dget_fig, Option.map_map]
  rfl
@[simp] theorem ix_fig2 (r c : Int) (l : FigL) : opIx [.dict (figD l), .tuple [.int r, .int c]] = (fget l (r, c)).map fun v => .fro (.int v) := ix_fig (r, c) l
@[simp] theorem len_fig (l : FigL) : opLen [.dict (figD l)] = some (.fro (.int (l.length : Nat))) := by
  show some (RV.fro (.int ((figD l).length : Nat))) = _
  rw [figD_len]
@[simp] theorem ix_ckey0 (p : Cell) : opIx [ckey p, .int 0] = some (.fro (.int p.1)) := rfl
@[simp] theorem ix_ckey1 (p : Cell) : opIx [ckey p, .int 1] = some (.fro (.int p.2)) := rfl
@[simp] theorem isT_dict (l : List (PyData × PyData)) : isT "dict" (.dict l) = true := rfl
@[simp] theorem isT_tuple (l : List PyData) : isT "tuple" (.tuple l) = true := rfl
@[simp] theorem isT_ckey (p : Cell) : isT "tuple" (ckey p) = true := rfl
@[simp] theorem opEqY_int (a b : Int) : opEqY [.int a, .int b] = some (.fro (.bool (decide (a = b)))) := opEqX_int a b
@[simp] theorem opNeY_int (a b : Int) : opNeY [.int a, .int b] = some (.fro (.bool (!decide (a = b)))) := opNeX_int a b
@[simp] theorem dictS_eq (i : Nat) (Γ : Env) : dictS i Γ = (varF i Γ).bind fun r Γ' => match r.toD with
  | .dict kvs => .ok (kvs.map (·.1)) Γ'
  | _ => .bad := rfl
/-! ### several stores -/
def fputs (acc l : FigL) : FigL := l.foldl (fun acc p => fput acc p.1 p.2) acc
theorem fputs_cons (acc : FigL) (q : Cell × Int) (l : FigL) : fputs acc (q :: l) = fputs (fput acc q.1 q.2) l := rfl
theorem fputs_nodup : ∀ {l acc : FigL}, (fkeys (acc ++ l)).Nodup → fputs acc l = acc ++ l
  | [], acc, _ => (List.append_nil acc).symm
  | q :: l, acc, nd => by
    have nd' := nd
    rw [fkeys_append, fkeys_cons, List.nodup_append] at nd'
    have hq : q.1 ∉ fkeys acc := fun z => nd'.2.2 q.1 z q.1 List.mem_cons_self rfl
    rw [fputs_cons, fput_new hq, fputs_nodup (by rw [List.append_assoc]; exact nd), List.append_assoc]
    rfl
theorem fputs_length : ∀ (l acc : FigL), (fputs acc l).length ≤ acc.length + l.length
  | [], acc => Nat.le_refl _
  | q :: l, acc => by
    have h1 := fputs_length l (fput acc q.1 q.2)
    have h2 := fput_length acc q.1 q.2
    rw [fputs_cons, List.length_cons]
    omega
def pairD (q : Cell × Int) : PyData := .tuple [ckey q.1, .int q.2]
theorem pairsD_fig (l : FigL) : pairsD (figD l) = l.map pairD := by
  unfold pairsD figD
  rw [List.map_map]
  rfl
theorem putAll_fig : ∀ (l acc : FigL), acc.length + l.length ≤ 1000000 → putAll (.dct (figD acc)) (l.map pairD) = some (.dct (figD (fputs acc l)))
  | [], acc, _ => rfl
  | q :: l, acc, h => by
    rw [List.length_cons] at h
    rw [List.map_cons]
    show (putO (.dct (figD acc)) (ckey q.1) (.int q.2)).bind (fun c' => putAll c' (l.map pairD)) = _
    rw [putO_fig q.1 q.2 (by omega)]
    have := fput_length acc q.1 q.2
    exact putAll_fig l (fput acc q.1 q.2) (by omega)
theorem dict_fig (l : FigL) (h : l.length ≤ 1000000) : opDict [.list (l.map pairD)] = some (.nw (.dct (figD (fputs [] l)))) := by
  have z : small24 (l.map pairD).length = true := small24_of (by rw [List.length_map]; omega)
  show (if _ then _ else _) = _
  rw [if_pos z, show putAll (.dct []) (l.map pairD) = _ from putAll_fig l [] (by simpa using h)]
  rfl
theorem dict_fig_nd (l : FigL) (h : l.length ≤ 1000000) (nd : (fkeys l).Nodup) : opDict [.list (l.map pairD)] = some (.nw (.dct (figD l))) := by
  rw [dict_fig l h, fputs_nodup (by simpa using nd)]
  rfl
/-! ### loops, comprehensions over lists of any things -/
theorem loopF_all {α : Type} {g : GF} {body : SF} (f : α → PyData) {all : List α} (R : List α → Env → Prop) {Γ0 : Env} (h0 : R [] Γ0)
    (step : ∀ done a rest Γ, all = done ++ a :: rest → R done Γ → ∃ Γ', turnF g body (f a) Γ = .nx Γ' ∧ R (done ++ [a]) Γ') : ∃ Γ', loopF g body (all.map f) Γ0 = .nx Γ' ∧ R all Γ' := by
  suffices h : ∀ rest done Γ, all = done ++ rest → R done Γ → ∃ Γ', loopF g body (rest.map f) Γ = .nx Γ' ∧ R all Γ' from h all [] Γ0 rfl h0
  intro rest
  induction rest with
  | nil =>
    intro done Γ e r
    rw [List.append_nil] at e
    exact ⟨Γ, rfl, e ▸ r⟩
  | cons a rest ih =>
    intro done Γ e r
    obtain ⟨Γ1, e1, r1⟩ := step done a rest Γ e r
    obtain ⟨Γ', e2, r2⟩ := ih (done ++ [a]) Γ1 (by rw [e, List.append_assoc]; rfl) r1
    refine ⟨Γ', ?_, r2⟩
    rw [List.map_cons, loopF_cons, e1]
    exact e2
/-- a loop that may return ahead of its end -/
theorem loopF_opt {α β : Type} {g : GF} {body : SF} (f : α → PyData) (st : β → α → Option β) (R : β → Env → Prop) (Z : SO → Prop) : ∀ {all : List α} {b0 : β} {Γ0 : Env}, R b0 Γ0 →
    (∀ a ∈ all, ∀ b Γ, R b Γ → (∃ b' Γ', st b a = some b' ∧ turnF g body (f a) Γ = .nx Γ' ∧ R b' Γ') ∨ (st b a = none ∧ ∃ r Γ', turnF g body (f a) Γ = .rt r Γ' ∧ Z (.rt r Γ'))) →
    (∃ b Γ', all.foldlM st b0 = some b ∧ loopF g body (all.map f) Γ0 = .nx Γ' ∧ R b Γ') ∨ (all.foldlM st b0 = none ∧ ∃ r Γ', loopF g body (all.map f) Γ0 = .rt r Γ' ∧ Z (.rt r Γ'))
  | [], b0, Γ0, h0, _ => .inl ⟨b0, Γ0, rfl, rfl, h0⟩
  | a :: all, b0, Γ0, h0, step => by
    rw [List.map_cons, loopF_cons, List.foldlM_cons]
    rcases step a List.mem_cons_self b0 Γ0 h0 with ⟨b', Γ', e1, e2, r⟩ | ⟨e1, rr, Γ', e2, z⟩
    · rw [e1, e2]
      exact loopF_opt f st R Z r fun a' ha => step a' (List.mem_cons_of_mem _ ha)
    · rw [e1, e2]
      exact .inr ⟨rfl, rr, Γ', rfl, z⟩
theorem lcL_map {α : Type} {vs : List Nat} {g : GF} {t : TF} {elt : EF} {Γ : Env} (f : α → PyData) (h : α → Option PyData) {all : List α}
    (H : ∀ a ∈ all, ∃ Γ1 b, g (f a) Γ = some Γ1 ∧ t Γ1 = .ok b Γ1 ∧ wipeE Γ1 vs = Γ ∧ (b = false → h a = none) ∧ (b = true → ∃ r Γ2, elt Γ1 = .ok r Γ2 ∧ wipeE Γ2 vs = Γ ∧ h a = some r.toD)) :
    lcL vs g t elt (all.map f) Γ = .ok (all.filterMap h) Γ := by
  induction all with
  | nil => rfl
  | cons a all ih =>
    obtain ⟨Γ1, b, e1, e2, e3, e4, e5⟩ := H a List.mem_cons_self
    have ih' := ih fun a' ha => H a' (List.mem_cons_of_mem _ ha)
    rw [List.map_cons]
    unfold lcL
    rw [e1]
    simp only [e2, Res.bind_ok]
    cases b with
    | false => rw [if_neg Bool.false_ne_true, e3, ih', List.filterMap_cons_none (e4 rfl)]
    | true =>
      obtain ⟨r, Γ2, q1, q2, q3⟩ := e5 rfl
      rw [if_pos rfl, q1]
      simp only [Res.bind_ok]
      rw [q2, ih']
      simp only [Res.bind_ok]
      rw [List.filterMap_cons_some q3]
/-- .. without a test -/
theorem lcL_each {α : Type} {vs : List Nat} {g : GF} {elt : EF} {Γ : Env} (f : α → PyData) (h : α → PyData) {all : List α}
    (H : ∀ a ∈ all, ∃ Γ1 r Γ2, g (f a) Γ = some Γ1 ∧ elt Γ1 = .ok r Γ2 ∧ wipeE Γ2 vs = Γ ∧ h a = r.toD) :
    lcL vs g yesF elt (all.map f) Γ = .ok (all.map h) Γ := by
  induction all with
  | nil => rfl
  | cons a all ih =>
    obtain ⟨Γ1, r, Γ2, e1, e2, e3, e4⟩ := H a List.mem_cons_self
    have ih' := ih fun a' ha => H a' (List.mem_cons_of_mem _ ha)
    rw [List.map_cons]
    unfold lcL
    rw [e1]
    simp only [yesF_eq, Res.bind_ok, if_true, e2]
    rw [e3, ih']
    simp only [Res.bind_ok, List.map_cons, e4]
/-- {k: v for ..}, keys cells, values whole numbers -/
theorem dcL_fig {α : Type} {vs : List Nat} {g : GF} {kf vf : EF} {Γ : Env} (f : α → PyData) (h : α → Cell × Int) : ∀ {all : List α} {acc : FigL}, acc.length + all.length ≤ 1000000 →
    (∀ a ∈ all, ∃ Γ1 r Γ2 r' Γ3, g (f a) Γ = some Γ1 ∧ kf Γ1 = .ok r Γ2 ∧ vf Γ2 = .ok r' Γ3 ∧ wipeE Γ3 vs = Γ ∧ r.toD = ckey (h a).1 ∧ r'.toD = .int (h a).2) →
    dcL vs g yesF kf vf (all.map f) (.dct (figD acc)) Γ = .ok (.dct (figD (fputs acc (all.map h)))) Γ
  | [], acc, _, _ => rfl
  | a :: all, acc, hl, H => by
    obtain ⟨Γ1, r, Γ2, r', Γ3, e1, e2, e3, e4, e5, e6⟩ := H a List.mem_cons_self
    rw [List.length_cons] at hl
    have l2 := fput_length acc (h a).1 (h a).2
    have ih := dcL_fig (vs := vs) (g := g) (kf := kf) (vf := vf) (Γ := Γ) f h (all := all) (acc := fput acc (h a).1 (h a).2) (by omega) fun a' ha => H a' (List.mem_cons_of_mem _ ha)
    rw [List.map_cons]
    unfold dcL
    rw [e1]
    simp only [yesF_eq, Res.bind_ok, if_true, e2, e3, e5, e6]
    rw [putO_fig _ _ (by omega)]
    simp only [ofOpt_some, Res.bind_ok]
    rw [e4, ih]
    rfl
end PD
end

section
set_option maxHeartbeats 1000000
namespace PD
open PySem PySem.Spec PyProof.Rows L2
@[simp] theorem bitsF_eq (f : EF) (Γ : Env) : bitsF f Γ = (f Γ).bind fun r Γ' => (ofOpt (asInt r.toD) Γ').bind fun i Γ' => .ok (.fro (.int (Builtin.Int.intBits i : Nat))) Γ' := rfl
@[simp] theorem loopF_nil (g : GF) (body : SF) (Γ : Env) : loopF g body [] Γ = .nx Γ := rfl
theorem mulOk_l (a b : Int) (h : a.natAbs < 2 ^ 64) : mulOk a b = true := by
  unfold mulOk
  rw [decide_eq_true h, Bool.or_true, Bool.true_or]
theorem mulOk_r (a b : Int) (h : b.natAbs < 2 ^ 64) : mulOk a b = true := by
  unfold mulOk
  rw [decide_eq_true h, Bool.or_true]
theorem e_hash (s c : Int) (hs : 0 ≤ s) (hs2 : s < 2147483647) (hc : 0 ≤ c) (hc2 : c ≤ 1000000000) : ∃ h : Int, 0 ≤ h ∧ h < 2147483647 ∧ φ__law_hash [.fro (.int s), .fro (.int c)] = .ok (.fro (.int h)) [.fro (.int s), .fro (.int c)] := by
  have m1 : mulOk s 1140671 = true := mulOk_r _ _ (by omega)
  have m2 : mulOk 27644437 c = true := mulOk_l _ _ (by omega)
  have m3 : mulOk (27644437 * c) c = true := mulOk_r _ _ (by omega)
  have m4 : mulOk 131 c = true := mulOk_l _ _ (by omega)
  have m5 : mulOk 62089 c = true := mulOk_l _ _ (by omega)
  generalize e1 : (s * 1140671 + 27644437 * c * c + 131 * c + 19) % 2147483629 = x
  have x0 : 0 ≤ x := by omega
  have x1 : x < 2147483629 := by omega
  have m6 : mulOk x x = true := mulOk_r _ _ (by omega)
  generalize e2 : (x * x + 62089 * c + 32416187) % 2147483587 = y
  have y0 : 0 ≤ y := by omega
  have y1 : y < 2147483587 := by omega
  have m7 : mulOk y 48271 = true := mulOk_r _ _ (by omega)
  refine ⟨(y * 48271) % 2147483647, by omega, by omega, ?_⟩
  simp [φ__law_hash, F__law_hash, opMul_int, m1, m2, m3, m4, m5, e1, m6, e2, m7]
/-- the law's source of draws -/
def GenAt (N : Int) (ds : List PyData) : Prop := ∃ a s c : Int, ds = [.int a, .int s, .int c] ∧ 0 ≤ a ∧ 0 ≤ s ∧ s < 2147483647 ∧ 0 ≤ c ∧ c ≤ N
theorem GenAt.mono {N M : Int} {ds : List PyData} (h : N ≤ M) : GenAt N ds → GenAt M ds
  | ⟨a, s, c, e, h1, h2, h3, h4, h5⟩ => ⟨a, s, c, e, h1, h2, h3, h4, by omega⟩
theorem bits_small (b : Int) (h0 : 1 ≤ b) (h1 : b < 2 ^ 29) : ((Builtin.Int.intBits b : Nat) : Int) / 30 = 0 := by
  have h : Builtin.Int.intBits b < 30 := by
    unfold Builtin.Int.intBits
    split
    · omega
    · have := log2_of_lt (n := b.natAbs) (k := 29) (by omega)
      rcases this with z | z
      · omega
      · omega
  omega
@[simp] theorem log30 : Nat.log2 30 < 9000 := by decide
theorem e_random (N : Int) (hN : N < 900000000) (ds : List PyData) (g : GenAt N ds) (b : Int) (hb : 1 ≤ b) (hb2 : b < 2 ^ 29) : ∃ (r : Int) (ds' : List PyData), 0 ≤ r ∧ r < b ∧ GenAt (N + 1) ds' ∧
    φ__law_random [.own (some 0) (.lst ds), .fro (.int b)] = .ok (.fro (.int r)) [.own (some 0) (.lst ds'), .fro (.int b)] := by
  obtain ⟨a, s, c, rfl, ha, hs, hs2, hc, hc2⟩ := g
  have b0 : 0 < b := by omega
  have lb : b.natAbs.log2 < 9000 := by
    have := log2_small (n := b.natAbs) (by omega)
    omega
  by_cases h : 0 < a
  · refine ⟨a % b, [.int (a / b), .int s, .int c], Int.emod_nonneg _ (by omega), Int.emod_lt_of_pos _ b0, ⟨a / b, s, c, rfl, Int.ediv_nonneg ha (by omega), hs, hs2, hc, by omega⟩, ?_⟩
    simp [φ__law_random, F__law_random, h, b0, lb]
  · have a0 : a = 0 := by omega
    subst a0
    obtain ⟨x, x0, x1, ex⟩ := e_hash s (c + 1) hs hs2 (by omega) (by omega)
    refine ⟨x % b, [.int 0, .int s, .int (c + 1)], Int.emod_nonneg _ (by omega), Int.emod_lt_of_pos _ b0, ⟨0, s, c + 1, rfl, by omega, hs, hs2, by omega, by omega⟩, ?_⟩
    have eb := bits_small b hb hb2
    have r1 : rangeD 0 1 = [.int 0] := rfl
    have m0 : mulOk 0 2147483587 = true := mulOk_l _ _ (by decide)
    simp [φ__law_random, F__law_random, b0, lb, eb, small62_of, r1, loopF_cons, turnF, B__law_random_0, opMul_int, m0, ex]
theorem e_pick (N : Int) (hN : N < 900000000) (ds : List PyData) (g : GenAt N ds) (xs : List PyData) (h0 : 1 ≤ xs.length) (h1 : xs.length < 1000) : ∃ (i : Nat) (hi : i < xs.length) (ds' : List PyData), GenAt (N + 1) ds' ∧
    φ__law_pick [.own (some 0) (.lst ds), .fro (.list xs)] = .ok (.fro xs[i]) [.own (some 0) (.lst ds'), .fro (.list xs)] := by
  obtain ⟨r, ds', r0, r1, g', e⟩ := e_random N hN ds g (xs.length : Nat) (by omega) (by omega)
  obtain ⟨i, rfl⟩ := Int.eq_ofNat_of_zero_le r0
  have hi : i < xs.length := by omega
  refine ⟨i, hi, ds', g', ?_⟩
  have a := atI_of xs i
  rw [List.getElem?_eq_getElem hi] at a
  simp [φ__law_pick, F__law_pick, e, a]
@[simp] theorem sliceF_eq (a : EF) (lo hi : OF) (Γ : Env) : sliceF a lo hi Γ = (a Γ).bind fun r Γ1 => (partF lo Γ1).bind fun l Γ2 => (partF hi Γ2).bind fun h Γ3 => ofOpt (sliceD r.toD l h) Γ3 := rfl
theorem opPow_int (a b : Int) (n : Nat) (hb : b = n) (h : (Builtin.Int.intBits a : Int) * b ≤ 134217728) : opPow [.int a, .int b] = some (.fro (.int (a ^ n))) := by
  subst hb
  show (if _ then _ else _) = _
  rw [if_pos (by rw [decide_eq_true h, decide_eq_true (by omega)]; rfl), Int.toNat_natCast]
theorem e_cell (ns : List Int) (i : Nat) : ∃ k : Int, φ__law_cell [.fro (.list (ns.map .int)), .fro (.int (i : Nat))] = .ok (.fro (.int k)) [.fro (.list (ns.map .int)), .fro (.int (i : Nat))] := by
  by_cases h : i < ns.length
  · refine ⟨ns[i], ?_⟩
    have a := atI_of (ns.map .int) i
    rw [List.getElem?_eq_getElem (by rw [List.length_map]; exact h), List.getElem_map] at a
    simp [φ__law_cell, F__law_cell, h, a]
  · have c : ∃ ms : List Int, intsOf (cutD (ns.map .int) none (some 1)) = some ms := by
      unfold cutD
      rw [← List.map_drop, ← List.map_take]
      exact ⟨_, intsOf_map _⟩
    obtain ⟨ms, c⟩ := c
    refine ⟨ms.sum % 1000003, ?_⟩
    simp [φ__law_cell, F__law_cell, h, partF, sliceD, opSum, c]
theorem e_generator (ns : List Int) (i : Nat) (hi : i < 5) : ∃ ds, GenAt 4000 ds ∧ φ__law_generator [.fro (.list (ns.map .int)), .fro (.int (i : Nat))] = .ok (.nw (.lst ds)) [.fro (.list (ns.map .int)), .fro (.int (i : Nat))] := by
  obtain ⟨k, e⟩ := e_cell ns i
  have p1 : opPow [.int 10, .int 18] = some (.fro (.int (10 ^ 18))) := opPow_int 10 18 18 rfl (by decide +kernel)
  have p2 : opPow [.int 10, .int 60] = some (.fro (.int (10 ^ 60))) := opPow_int 10 60 60 rfl (by decide +kernel)
  have p3 : opPow [.int (10 ^ 60), .int 10] = some (.fro (.int ((10 ^ 60) ^ 10))) := opPow_int (10 ^ 60) 10 10 rfl (by decide +kernel)
  have m1 : mulOk 1000 (i : Nat) = true := mulOk_l _ _ (by decide)
  generalize hT : ((10 ^ 60) ^ 10 : Int) = T at p3
  have T0 : 0 < T := by rw [← hT]; decide +kernel
  clear hT
  generalize ((10 ^ 60) : Int) = S at p2 p3
  generalize ((10 ^ 18) : Int) = R at p1
  generalize hm : (if 0 > k - R then 0 else k - R) = m
  have m0 : 0 ≤ m := by
    rw [← hm]
    split <;> omega
  refine ⟨[.int (m % T), .int (k % 2147483647), .int (1000 * (i : Nat))], ⟨_, _, _, rfl, Int.emod_nonneg _ (by omega), Int.emod_nonneg _ (by omega), Int.emod_lt_of_pos _ (by omega), by omega, by omega⟩, ?_⟩
  simp only [gt_iff_lt] at hm
  simp [φ__law_generator, F__law_generator, e, p1, p2, p3, opMul_int, m1, hm, T0]
end PD
end

section
set_option maxHeartbeats 1000000
namespace PD
open PySem PySem.Spec PyProof.Rows L2
/-! ### draws out of a list -/
theorem e_pickB (N : Int) (hN : N < 900000000) (ds : List PyData) (g : GenAt N ds) (xs : List PyData) (h0 : 1 ≤ xs.length) (h1 : xs.length < 500000000) : ∃ (i : Nat) (hi : i < xs.length) (ds' : List PyData), GenAt (N + 1) ds' ∧
    φ__law_pick [.own (some 0) (.lst ds), .fro (.list xs)] = .ok (.fro xs[i]) [.own (some 0) (.lst ds'), .fro (.list xs)] := by
  obtain ⟨r, ds', r0, r1, g', e⟩ := e_random N hN ds g (xs.length : Nat) (by omega) (by omega)
  obtain ⟨i, rfl⟩ := Int.eq_ofNat_of_zero_le r0
  have hi : i < xs.length := by omega
  refine ⟨i, hi, ds', g', ?_⟩
  have a := atI_of xs i
  rw [List.getElem?_eq_getElem hi] at a
  simp [φ__law_pick, F__law_pick, e, a]
theorem seqIx {k n : Nat} (h : k < n) : seqIndex? (k : Int) n = some k := by
  unfold seqIndex?
  have h1 : ¬ (k : Int) < 0 := by omega
  have h2 : (k : Int) < n := by omega
  have h3 : (0 : Int) ≤ k := by omega
  simp only [if_neg h1, h2, h3, decide_true, Bool.and_self, if_true, Int.toNat_natCast]
theorem popAt_eq {xs : List PyData} {k : Nat} (h : k < xs.length) (hx : xs.length < 1000000000) : omPopAt (.lst xs) [.int (k : Nat)] = some (.lst (xs.eraseIdx k), xs[k]) := by
  have z : small62 (k : Nat) = true := small62_of (by omega) (by omega)
  unfold omPopAt
  simp only [z, if_true, seqIx h, Option.bind_some, List.getElem?_eq_getElem h, Option.map_some]
theorem perm_pop : ∀ (l : List PyData) (i : Nat) (h : i < l.length), (l[i] :: l.eraseIdx i).Perm l
  | x :: l, 0, _ => by simp
  | x :: l, i + 1, h => by
    have ih := perm_pop l i (by simpa using h)
    simp only [List.getElem_cons_succ, List.eraseIdx_cons_succ]
    exact (List.Perm.swap _ _ _).trans (ih.cons x)
theorem drawn_turn (N : Int) (ds1 : List PyData) (g1 : GenAt N ds1) (hN : N < 800000000) (left found : List PyData) (X : Option SV) (d : PyData) (x4 : Option SV) (h1 : 1 ≤ left.length) (h2 : left.length ≤ 100000) (h3 : found.length ≤ 100000) :
    ∃ (k : Nat) (hk : k < left.length) (ds2 : List PyData), GenAt (N + 1) ds2 ∧ turnF (nameG 4) B__law_drawn_0 d [some (.own (some 0) (.lst ds1)), X, some (.own none (.lst left)), some (.own none (.lst found)), x4] =
      .nx [some (.own (some 0) (.lst ds2)), X, some (.own none (.lst (left.eraseIdx k))), some (.own none (.lst (found ++ [left[k]]))), some (.fro d)] := by
  obtain ⟨r, ds2, r0, r1, g2, er⟩ := e_random N (by omega) ds1 g1 (left.length : Nat) (by omega) (by omega)
  obtain ⟨k, rfl⟩ := Int.eq_ofNat_of_zero_le r0
  have hk : k < left.length := by omega
  have po := popAt_eq hk (by omega)
  have z : small24 (found.length + 1) = true := small24_of (by omega)
  refine ⟨k, hk, ds2, g2, ?_⟩
  generalize left.eraseIdx k = left2 at *
  generalize left[k] = y at *
  simp [turnF, B__law_drawn_0, er, po, z]
theorem e_drawn (N : Int) (ds : List PyData) (g : GenAt N ds) (xs : List PyData) (hx : xs.length ≤ 100000) (hN : N < 700000000) : ∃ (ys ds' : List PyData), ys.Perm xs ∧ GenAt (N + (xs.length : Nat)) ds' ∧
    φ__law_drawn [.own (some 0) (.lst ds), .fro (.list xs)] = .ok (.nw (.lst ys)) [.own (some 0) (.lst ds'), .fro (.list xs)] := by
  obtain ⟨Γ', e, left, found, ds', x4, l1, l2, pm, g', rfl⟩ := loopF_inv (g := nameG 4) (body := B__law_drawn_0) (items := xs)
    (fun i Γ => ∃ left found ds' x4, left.length + i = xs.length ∧ found.length = i ∧ (found ++ left).Perm xs ∧ GenAt (N + (i : Nat)) ds' ∧ Γ = [some (.own (some 0) (.lst ds')), some (.fro (.list xs)), some (.own none (.lst left)), some (.own none (.lst found)), x4])
    (Γ0 := [some (.own (some 0) (.lst ds)), some (.fro (.list xs)), some (.own none (.lst xs)), some (.own none (.lst [])), none]) ⟨xs, [], ds, none, rfl, rfl, List.Perm.refl _, by simpa using g, rfl⟩ (fun i d Γ hd h => by
      obtain ⟨left, found, ds1, x4, l1, l2, pm, g1, rfl⟩ := h
      have hi : i < xs.length := (List.getElem?_eq_some_iff.mp hd).1
      obtain ⟨k, hk, ds2, g2, e⟩ := drawn_turn (N + (i : Nat)) ds1 g1 (by omega) left found (some (.fro (.list xs))) d x4 (by omega) (by omega) (by omega)
      have pp := perm_pop left k hk
      have le : (left.eraseIdx k).length = left.length - 1 := List.length_eraseIdx_of_lt hk
      refine ⟨_, e, left.eraseIdx k, found ++ [left[k]], ds2, some (.fro d), by omega, by simp [l2], ?_, GenAt.mono (by omega) g2, rfl⟩
      rw [List.append_assoc]
      exact (List.Perm.append_left found pp).trans pm)
  have left0 : left = [] := List.eq_nil_of_length_eq_zero (by omega)
  subst left0
  rw [List.append_nil] at pm
  refine ⟨found, ds', pm, g', ?_⟩
  simp [φ__law_drawn, F__law_drawn, opList, e]
/-! ### sorted -/
def sortBy {α : Type} (f : α → PyData) (l : List α) : List α := l.mergeSort fun a b => PySem.W.dataLe false id (f a) (f b)
theorem sortBy_perm {α : Type} (f : α → PyData) (l : List α) : (sortBy f l).Perm l := List.mergeSort_perm _ _
theorem sortD_map {α : Type} (f : α → PyData) (l : List α) : sortD (l.map f) = (sortBy f l).map f := (PySem.W.sort_maps f fun _ _ _ _ => rfl).symm
theorem okSort_of {ds : List PyData} (hl : ds.length ≤ 1000000) (h1 : ∀ d ∈ ds, d.depth ≤ 40) (h2 : ∀ d ∈ ds, ∀ d' ∈ ds, PySem.W.alike d d' = true) (h3 : ∀ d ∈ ds, isTupC d = true) : okSort ds = true := by
  unfold okSort alikeD
  simp only [Bool.and_eq_true, Bool.or_eq_true, List.all_eq_true, decide_eq_true_eq]
  exact ⟨⟨⟨small24_of (by omega), h1⟩, h2⟩, .inl h3⟩
theorem sorted_map {α : Type} (f : α → PyData) (l : List α) (hl : l.length ≤ 1000000) (h1 : ∀ a, (f a).depth ≤ 40) (h2 : ∀ a b, PySem.W.alike (f a) (f b) = true) (h3 : ∀ a, isTupC (f a) = true) : opSorted [.list (l.map f)] = some (.nw (.lst ((sortBy f l).map f))) := by
  have ok : okSort (l.map f) = true := by
    refine okSort_of (by rw [List.length_map]; exact hl) (fun d hd => ?_) (fun d hd d' hd' => ?_) fun d hd => ?_
    · obtain ⟨a, _, rfl⟩ := List.mem_map.mp hd
      exact h1 a
    · obtain ⟨a, _, rfl⟩ := List.mem_map.mp hd
      obtain ⟨b, _, rfl⟩ := List.mem_map.mp hd'
      exact h2 a b
    · obtain ⟨a, _, rfl⟩ := List.mem_map.mp hd
      exact h3 a
  show (if _ then _ else _) = _
  rw [if_pos ok, sortD_map]
theorem sorted_cells (l : List Cell) (hl : l.length ≤ 1000000) : opSorted [.list (l.map ckey)] = some (.nw (.lst ((sortBy ckey l).map ckey))) :=
  sorted_map ckey l hl (fun _ => by simp [ckey, PyData.depth, PyData.depthAll]) (fun _ _ => by simp [ckey, PySem.W.alike, PySem.W.alikeAll]) fun _ => rfl
theorem sorted_pairs (l : FigL) (hl : l.length ≤ 1000000) : opSorted [.list (l.map pairD)] = some (.nw (.lst ((sortBy pairD l).map pairD))) :=
  sorted_map pairD l hl (fun _ => by simp [pairD, ckey, PyData.depth, PyData.depthAll]) (fun _ _ => by simp [pairD, ckey, PySem.W.alike, PySem.W.alikeAll]) fun _ => rfl
/-! ### checks -/
@[simp] theorem e_is_whole (n : Int) : φ_is_whole [.fro (.int n)] = .ok (.fro (.bool true)) [.fro (.int n)] := by
  simp [φ_is_whole, F_is_whole]
@[simp] theorem e_is_count (n : Int) : φ_is_count [.fro (.int n)] = .ok (.fro (.bool (decide (0 ≤ n)))) [.fro (.int n)] := by
  simp [φ_is_count, F_is_count]
@[simp] theorem e_is_whole_number (n : Int) : φ_is_whole_number [.fro (.int n)] = .ok (.fro (.bool true)) [.fro (.int n)] := by
  by_cases h : 0 ≤ n
  · simp [φ_is_whole_number, F_is_whole_number, h]
  · have h2 : n < 0 := by omega
    simp [φ_is_whole_number, F_is_whole_number, h, h2]
@[simp] theorem opLen_tup (xs : List PyData) : opLen [.tuple xs] = some (.fro (.int (xs.length : Nat))) := rfl
@[simp] theorem tupI_eq (f : EF) (Γ : Env) : tupI f Γ = (f Γ).bind asTup := rfl
theorem boolsOf_true {α : Type} : ∀ l : List α, boolsOf (l.map fun _ => .bool true) = some (l.map fun _ => true)
  | [] => rfl
  | a :: l => by
    rw [List.map_cons]
    unfold boolsOf
    rw [boolsOf_true l]
    rfl
theorem opAll_true {α : Type} (l : List α) : opAll [.list (l.map fun _ => .bool true)] = some (.fro (.bool true)) := by
  show (boolsOf _).map _ = _
  rw [boolsOf_true]
  simp
theorem boolsOf_map' {α : Type} (f : α → Bool) : ∀ l : List α, boolsOf (l.map fun a => .bool (f a)) = some (l.map f)
  | [] => rfl
  | a :: l => by
    rw [List.map_cons]
    unfold boolsOf
    rw [boolsOf_map' f l]
    rfl
theorem opAll_map {α : Type} (f : α → Bool) (l : List α) : opAll [.list (l.map fun a => .bool (f a))] = some (.fro (.bool (l.all f))) := by
  show (boolsOf _).map _ = _
  rw [boolsOf_map' f l]
  simp only [Option.map_some, List.all_map]
  rfl
theorem e_is_cell (p : Cell) : φ_is_cell [.fro (ckey p)] = .ok (.fro (.bool true)) [.fro (ckey p)] := by
  obtain ⟨a, b⟩ := p
  have e : ckey (a, b) = .tuple [.int a, .int b] := rfl
  rw [e]
  have lc := lcL_each (vs := [1]) (g := nameG 1) (elt := callF φ_is_whole_number [.e (varF 1)])
    (Γ := [some (.fro (.tuple [.int a, .int b])), none]) PyData.int (fun _ => .bool true) (all := [a, b]) fun n hn =>
    ⟨[some (.fro (.tuple [.int a, .int b])), some (.fro (.int n))], .fro (.bool true), [some (.fro (.tuple [.int a, .int b])), some (.fro (.int n))], rfl, by simp, rfl, rfl⟩
  have al : opAll [.list [.bool true, .bool true]] = some (.fro (.bool true)) := rfl
  have as : asTup (.fro (.tuple [.int a, .int b])) [some (.fro (.tuple [.int a, .int b])), none] = .ok [.int a, .int b] [some (.fro (.tuple [.int a, .int b])), none] := rfl
  have z : small24 2 = true := by decide
  simp only [List.map_cons, List.map_nil] at lc
  simp [φ_is_cell, F_is_cell, as, z, lc, al]
/-- a figure -/
structure Fig (l : FigL) : Prop where
  nd : (fkeys l).Nodup
  ne : l ≠ []
  val : ∀ q ∈ l, 0 ≤ q.2 ∧ q.2 ≤ 4
  len : l.length ≤ 10000
  far : ∀ q ∈ l, q.1.1.natAbs ≤ 1000000 ∧ q.1.2.natAbs ≤ 1000000
theorem e_is_figure (l : FigL) (F : Fig l) : φ_is_figure [.fro (.dict (figD l))] = .ok (.fro (.bool true)) [.fro (.dict (figD l))] := by
  have k := figD_fst l
  have lp : ¬ (l.length : Int) = 0 := by
    have := F.ne
    cases l with
    | nil => exact absurd rfl this
    | cons a l =>
      rw [List.length_cons]
      omega
  have z : small24 (l.map fun q => ckey q.1).length = true := small24_of (by rw [List.length_map]; have := F.len; omega)
  have ix : ∀ q ∈ l, opIx [.dict (figD l), ckey q.1] = some (.fro (.int q.2)) := fun q hq => by
    rw [ix_fig, fget_at F.nd hq]
    rfl
  have ln := len_fig l
  have al := opAll_true l
  have vl := F.val
  generalize figD l = fig at *
  have lc1 := lcL_each (vs := [1]) (g := nameG 1) (elt := callF φ_is_cell [.e (varF 1)])
    (Γ := [some (.fro (.dict fig)), none]) (fun q : Cell × Int => ckey q.1) (fun _ => .bool true) (all := l) fun q hq =>
    ⟨[some (.fro (.dict fig)), some (.fro (ckey q.1))], .fro (.bool true), [some (.fro (.dict fig)), some (.fro (ckey q.1))], rfl, by simp [e_is_cell], rfl, rfl⟩
  have lc2 := lcL_each (vs := [1]) (g := nameG 1) (elt := andVF (callF φ_is_count [.e (opF opIx [.s 0, .s 1])]) (opF opLe [.e (opF opIx [.s 0, .s 1]), .e (cF (.int 4))]))
    (Γ := [some (.fro (.dict fig)), none]) (fun q : Cell × Int => ckey q.1) (fun _ => .bool true) (all := l) fun q hq => by
    have ix := ix q hq
    have v := vl q hq
    generalize ckey q.1 = key at *
    refine ⟨[some (.fro (.dict fig)), some (.fro key)], .fro (.bool true), [some (.fro (.dict fig)), some (.fro key)], rfl, ?_, rfl, rfl⟩
    simp [ix, v]
  generalize (l.map fun _ => PyData.bool true) = trues at *
  generalize (l.map fun q => ckey q.1) = keys at *
  simp [φ_is_figure, F_is_figure, ln, lp, F.ne, k, z, lc1, lc2, al]
theorem e_check_figure (l : FigL) (F : Fig l) : φ_check_figure [.fro (.dict (figD l))] = .ok (.fro .none) [.fro (.dict (figD l))] := by
  have c := e_is_figure l F
  simp [φ_check_figure, F_check_figure, c]
theorem e_check_two (l r : FigL) (F : Fig l) (G : Fig r) : φ_check_two_figures [.fro (.dict (figD l)), .fro (.dict (figD r))] = .ok (.fro .none) [.fro (.dict (figD l)), .fro (.dict (figD r))] := by
  have c := e_check_figure l F
  have d := e_check_figure r G
  simp [φ_check_two_figures, F_check_two_figures, c, d]
/-! ### halves -/
def halfs (v : Int) : Int := if v = 4 then 2 else 1
def halves (l : FigL) : Int := (l.map fun q => halfs q.2).sum
theorem e_halves (l : FigL) (nd : (fkeys l).Nodup) (hl : l.length ≤ 100000) : φ__law_halves [.fro (.dict (figD l))] = .ok (.fro (.int (halves l))) [.fro (.dict (figD l))] := by
  have k := figD_fst l
  have z : small24 (l.map fun q => ckey q.1).length = true := small24_of (by rw [List.length_map]; omega)
  have ix : ∀ q ∈ l, opIx [.dict (figD l), ckey q.1] = some (.fro (.int q.2)) := fun q hq => by
    rw [ix_fig, fget_at nd hq]
    rfl
  generalize figD l = fig at *
  have lc1 := lcL_each (vs := [1]) (g := nameG 1) (elt := ifF (boolF (opF opEqY [.e (opF opIx [.s 0, .s 1]), .e (cF (.int 4))])) (cF (.int 2)) (cF (.int 1)))
    (Γ := [some (.fro (.dict fig)), none]) (fun q : Cell × Int => ckey q.1) (fun q => .int (halfs q.2)) (all := l) fun q hq => by
    have ix := ix q hq
    generalize ckey q.1 = key at *
    refine ⟨[some (.fro (.dict fig)), some (.fro key)], .fro (.int (halfs q.2)), [some (.fro (.dict fig)), some (.fro key)], rfl, ?_, rfl, rfl⟩
    unfold halfs
    by_cases h : q.2 = 4
    · simp [ix, h]
    · simp [ix, h]
  have sm : opSum [.list (l.map fun q => .int (halfs q.2))] = some (.fro (.int (halves l))) := by
    have e : (l.map fun q => PyData.int (halfs q.2)) = (l.map fun q => halfs q.2).map .int := by rw [List.map_map]; rfl
    rw [e]
    show (intsOf _).map _ = _
    rw [intsOf_map]
    rfl
  generalize (l.map fun q => PyData.int (halfs q.2)) = hs at *
  generalize (l.map fun q => ckey q.1) = keys at *
  simp [φ__law_halves, F__law_halves, k, z, lc1, sm]
end PD
end

section
set_option maxHeartbeats 1000000
/-! PF2: repr of figures; equality of figures. -/
namespace PD
open PySem PySem.Spec PyProof.Rows L2
mutual
def plX : PyData → Bool
  | .none => true
  | .bool _ => true
  | .int i => decide (i.natAbs < 10 ^ 80)
  | .str _ => false
  | .list xs => plXs xs
  | .tuple xs => plXs xs
  | .dict kvs => plXv kvs
def plXs : List PyData → Bool
  | [] => true
  | x :: xs => plX x && plXs xs
def plXv : List (PyData × PyData) → Bool
  | [] => true
  | (k, v) :: r => plX k && (plX v && plXv r)
end
mutual
theorem plX_show : ∀ d : PyData, plX d = true → d.showable = true
  | .none, _ => rfl
  | .bool _, _ => rfl
  | .int i, h => by
    unfold PyData.showable
    exact decide_eq_true (pl_int (of_decide_eq_true h))
  | .str _, h => nomatch h
  | .list xs, h => by
    unfold PyData.showable
    exact plXs_show xs h
  | .tuple xs, h => by
    unfold PyData.showable
    exact plXs_show xs h
  | .dict kvs, h => by
    unfold PyData.showable
    exact plXv_show kvs h
theorem plXs_show : ∀ xs : List PyData, plXs xs = true → PyData.showableAll xs = true
  | [], _ => rfl
  | x :: xs, h => by
    have h' := Bool.and_eq_true_iff.mp h
    unfold PyData.showableAll
    rw [plX_show x h'.1, plXs_show xs h'.2]
    rfl
theorem plXv_show : ∀ xs : List (PyData × PyData), plXv xs = true → PyData.showableKv xs = true
  | [], _ => rfl
  | (k, v) :: xs, h => by
    have h1 := Bool.and_eq_true_iff.mp h
    have h2 := Bool.and_eq_true_iff.mp h1.2
    unfold PyData.showableKv
    rw [plX_show k h1.1, plX_show v h2.1, plXv_show xs h2.2]
    rfl
end
mutual
theorem plX_short : ∀ d : PyData, plX d = true → d.leavesShort 81 = true
  | .none, _ => rfl
  | .bool _, _ => rfl
  | .int i, h => by
    unfold PyData.leavesShort
    exact decide_eq_true (pl_leaf (of_decide_eq_true h))
  | .str _, h => nomatch h
  | .list xs, h => by
    unfold PyData.leavesShort
    exact plXs_short xs h
  | .tuple xs, h => by
    unfold PyData.leavesShort
    exact plXs_short xs h
  | .dict kvs, h => by
    unfold PyData.leavesShort
    exact plXv_short kvs h
theorem plXs_short : ∀ xs : List PyData, plXs xs = true → PyData.leavesShortAll 81 xs = true
  | [], _ => rfl
  | x :: xs, h => by
    have h' := Bool.and_eq_true_iff.mp h
    unfold PyData.leavesShortAll
    rw [plX_short x h'.1, plXs_short xs h'.2]
    rfl
theorem plXv_short : ∀ xs : List (PyData × PyData), plXv xs = true → PyData.leavesShortKv 81 xs = true
  | [], _ => rfl
  | (k, v) :: xs, h => by
    have h1 := Bool.and_eq_true_iff.mp h
    have h2 := Bool.and_eq_true_iff.mp h1.2
    unfold PyData.leavesShortKv
    rw [plX_short k h1.1, plX_short v h2.1, plXv_short xs h2.2]
    rfl
end
mutual
theorem plX_low : ∀ d : PyData, plX d = true → lowS d.shown
  | .none, _ => pl_low_none
  | .bool b, _ => pl_low_bool b
  | .int i, h => lowS_int i
  | .str _, h => nomatch h
  | .list xs, h => by
    rw [PyData.shown_list]
    exact lowS_append (lowS_append (lowS_dec (by decide)) (lowS_join (plXs_low xs h))) (lowS_dec (by decide))
  | .tuple xs, h => by
    rw [PyData.shown_tuple]
    refine lowS_append (lowS_append (lowS_dec (by decide)) (lowS_join (plXs_low xs h))) ?_
    split
    · exact lowS_dec (by decide)
    · exact lowS_dec (by decide)
  | .dict kvs, h => by
    rw [PyData.shown_dict]
    exact lowS_append (lowS_append (lowS_dec (by decide)) (lowS_join (plXv_low kvs h))) (lowS_dec (by decide))
theorem plXs_low : ∀ xs : List PyData, plXs xs = true → ∀ t ∈ PyData.shownAll xs, lowS t
  | [], _, t, ht => by
    rw [PyData.shownAll_nil] at ht
    exact absurd ht List.not_mem_nil
  | x :: xs, h, t, ht => by
    have h' := Bool.and_eq_true_iff.mp h
    rw [PyData.shownAll_cons, List.mem_cons] at ht
    rcases ht with z | z
    · rw [z]
      exact plX_low x h'.1
    · exact plXs_low xs h'.2 t z
theorem plXv_low : ∀ xs : List (PyData × PyData), plXv xs = true → ∀ t ∈ PyData.shownKv xs, lowS t
  | [], _, t, ht => by
    have e : PyData.shownKv [] = [] := by simp only [PyData.shownKv]
    rw [e] at ht
    exact absurd ht List.not_mem_nil
  | (k, v) :: xs, h, t, ht => by
    have h1 := Bool.and_eq_true_iff.mp h
    have h2 := Bool.and_eq_true_iff.mp h1.2
    have e : PyData.shownKv ((k, v) :: xs) = (k.shown ++ ": " ++ v.shown) :: PyData.shownKv xs := by simp only [PyData.shownKv]
    rw [e, List.mem_cons] at ht
    rcases ht with z | z
    · rw [z]
      exact lowS_append (lowS_append (plX_low k h1.1) (lowS_dec (by decide))) (plX_low v h2.1)
    · exact plXv_low xs h2.2 t z
end
theorem plX_text {d : PyData} (h : plX d = true) : SeqAt.shaped (.str d.shown) = true := by
  unfold SeqAt.shaped
  have e : PyData.strOk d.shown = true := by
    unfold PyData.strOk
    exact Array.all_eq_true_iff_forall_mem.mpr fun c hc => decide_eq_true (plX_low d h c (Array.mem_toList_iff.mpr hc))
  have e2 : (PyData.str d.shown).canLay0 = true := e
  rw [e2]
  rfl
theorem reprX_ok {d : PyData} (h : plX d = true) (h1 : isRefD d = true) (h2 : tupKeys d = true) (h3 : d.depth ≤ 60) (hb : d.bulk ≤ 200000) : opReprD [d] = some (.fro (.str d.shown)) := by
  have e := PyData.shown_le_bulk 81 (by decide) d (plX_short d h)
  have e2 : (81 + 2) * d.bulk ≤ 83 * 200000 := Nat.mul_le_mul (by omega) hb
  have z : small24 d.shown.length = true := decide_eq_true (by omega)
  exact if_pos (by rw [h1, h2, decide_eq_true h3, plX_show d h, z]; rfl)
theorem strEq_ne {x : Str} (h : SeqAt.shaped (.str x) = true) : opNeY [.str x, .str x] = some (.fro (.bool false)) := nex_same h
theorem strEq_eq {x : Str} (h : SeqAt.shaped (.str x) = true) : opEqY [.str x, .str x] = some (.fro (.bool true)) := eqx_same h
/-! ### figures -/
def farP (l : FigL) : Prop := ∀ q ∈ l, q.1.1.natAbs ≤ 1000000 ∧ q.1.2.natAbs ≤ 1000000 ∧ q.2.natAbs ≤ 1000000
theorem plX_cell {p : Cell} (h : p.1.natAbs ≤ 1000000 ∧ p.2.natAbs ≤ 1000000) : plX (ckey p) = true := by
  have h1 : p.1.natAbs < 10 ^ 80 := Nat.lt_of_le_of_lt h.1 (by decide)
  have h2 : p.2.natAbs < 10 ^ 80 := Nat.lt_of_le_of_lt h.2 (by decide)
  unfold ckey
  simp only [plX, plXs, decide_eq_true h1, decide_eq_true h2, Bool.and_self]
theorem plXv_fig : ∀ {l : FigL}, farP l → plXv (figD l) = true
  | [], _ => rfl
  | q :: l, h => by
    have hq := h q List.mem_cons_self
    have ih := plXv_fig (l := l) fun x hx => h x (List.mem_cons_of_mem _ hx)
    have h2 : q.2.natAbs < 10 ^ 80 := Nat.lt_of_le_of_lt hq.2.2 (by decide)
    show (plX (ckey q.1) && (plX (.int q.2) && plXv (figD l))) = true
    rw [plX_cell ⟨hq.1, hq.2.1⟩, ih]
    unfold plX
    rw [decide_eq_true h2]
    rfl
theorem tupKeys_fig : ∀ l : FigL, tupKeysV (figD l) = true
  | [] => rfl
  | q :: l => by
    have ih := tupKeys_fig l
    show (isTup (ckey q.1) && (tupKeys (.int q.2) && tupKeysV (figD l))) = true
    rw [ih]
    rfl
theorem bulk_fig : ∀ l : FigL, PyData.bulkKv (figD l) = 4 * l.length
  | [] => rfl
  | q :: l => by
    have ih := bulk_fig l
    show (ckey q.1).bulk + (PyData.int q.2).bulk + 2 + PyData.bulkKv (figD l) = _
    rw [ih, List.length_cons]
    have e1 : (ckey q.1).bulk = 2 := by simp [ckey, PyData.bulk, PyData.bulkAll]
    have e2 : (PyData.int q.2).bulk = 0 := by simp [PyData.bulk]
    omega
theorem depthKv_fig : ∀ l : FigL, PyData.depthKv (figD l) ≤ 1
  | [] => by simp [figD, PyData.depthKv]
  | q :: l => by
    have ih := depthKv_fig l
    show PyData.depthKv ((ckey q.1, .int q.2) :: figD l) ≤ 1
    simp only [PyData.depthKv, ckey, PyData.depth, PyData.depthAll]
    omega
/-- equal as dicts -/
def EqF (a b : FigL) : Prop := a.length = b.length ∧ ∀ q ∈ a, fget b q.1 = some q.2
theorem EqF.of_fget {a b : FigL} (na : (fkeys a).Nodup) (nb : (fkeys b).Nodup) (h : ∀ p, fget a p = fget b p) : EqF a b := by
  refine ⟨?_, fun q hq => (h q.1).symm.trans (fget_at na hq)⟩
  have pm : (fkeys a).Perm (fkeys b) := (List.perm_ext_iff_of_nodup na nb).mpr fun p => by
    have e : (fget a p).isSome = (fget b p).isSome := by rw [h p]
    rw [fget_isSome, fget_isSome] at e
    exact decide_eq_decide.mp e
  have := pm.length_eq
  rw [fkeys_length, fkeys_length] at this
  exact this
theorem EqF.refl {a : FigL} (na : (fkeys a).Nodup) : EqF a a := ⟨rfl, fun _ hq => fget_at na hq⟩
theorem same_fig (n : Nat) {a b : FigL} (h : EqF a b) : sameN (n + 2) (.dict (figD a)) (.dict (figD b)) = true := by
  unfold sameN
  rw [Bool.or_eq_true]
  right
  rw [Bool.and_eq_true, figD_len, figD_len]
  refine ⟨by simp [h.1], ?_⟩
  rw [List.all_eq_true]
  intro q hq
  unfold figD at hq
  obtain ⟨p, hp, rfl⟩ := List.mem_map.mp hq
  simp only
  rw [dget_fig, h.2 p hp]
  simp only [Option.map_some]
  unfold sameN
  simp [shaped_int, PyData.eqv]
theorem ne_fig {a b : FigL} (h : EqF a b) : opNeY [.dict (figD a), .dict (figD b)] = some (.fro (.bool false)) := by
  have e : (figD a).length = (figD b).length := by rw [figD_len, figD_len, h.1]
  have n1 : SeqAt.shaped (.dict (figD a)) = false := rfl
  show (if (figD a).length = (figD b).length then opNeX _ else _) = _
  rw [if_pos e]
  unfold opNeX
  simp only [n1, same_fig 6 h, isLst]
  simp
theorem eq_fig {a b : FigL} (h : EqF a b) : opEqY [.dict (figD a), .dict (figD b)] = some (.fro (.bool true)) := by
  have e : (figD a).length = (figD b).length := by rw [figD_len, figD_len, h.1]
  have n1 : SeqAt.shaped (.dict (figD a)) = false := rfl
  show (if (figD a).length = (figD b).length then opEqX _ else _) = _
  rw [if_pos e]
  unfold opEqX
  simp only [n1, same_fig 6 h]
  simp
theorem figD_nil : figD [] = [] := rfl
/-- l == {} -/
theorem eq_empty (l : FigL) : opEqY [.dict (figD l), .dict []] = some (.fro (.bool l.isEmpty)) := by
  cases l with
  | nil => exact eq_fig (a := []) (b := []) ⟨rfl, fun q h => nomatch h⟩
  | cons q l => rfl
theorem ne_empty (l : FigL) : opNeY [.dict (figD l), .dict []] = some (.fro (.bool (!l.isEmpty))) := by
  cases l with
  | nil => exact ne_fig (a := []) (b := []) ⟨rfl, fun q h => nomatch h⟩
  | cons q l => rfl
@[simp] theorem ne_none : opNeY [.none, .none] = some (.fro (.bool false)) := rfl
@[simp] theorem eq_none : opEqY [.none, .none] = some (.fro (.bool true)) := rfl
theorem two_repr {a b : FigL} (fa : farP a) (fb : farP b) (la : a.length ≤ 20000) (lb : b.length ≤ 20000) : ∃ s, opReprD [.list [.dict (figD a), .dict (figD b)]] = some (.fro (.str s)) ∧ SeqAt.shaped (.str s) = true := by
  have h : plX (.list [.dict (figD a), .dict (figD b)]) = true := by
    simp only [plX, plXs, plXv_fig fa, plXv_fig fb, Bool.and_self]
  refine ⟨_, reprX_ok h rfl ?_ ?_ ?_, plX_text h⟩
  · simp only [tupKeys, tupKeysAll, tupKeys_fig, Bool.and_self]
  · have h1 := depthKv_fig a
    have h2 := depthKv_fig b
    simp only [PyData.depth, PyData.depthAll]
    omega
  · have h1 := bulk_fig a
    have h2 := bulk_fig b
    simp only [PyData.bulk, PyData.bulkAll]
    omega
theorem one_repr {a : FigL} (fa : farP a) (la : a.length ≤ 20000) : ∃ s, opReprD [.dict (figD a)] = some (.fro (.str s)) ∧ SeqAt.shaped (.str s) = true := by
  have h : plX (.dict (figD a)) = true := by
    simp only [plX, plXv_fig fa]
  refine ⟨_, reprX_ok h rfl ?_ ?_ ?_, plX_text h⟩
  · simp only [tupKeys, tupKeys_fig]
  · have h1 := depthKv_fig a
    simp only [PyData.depth]
    omega
  · have h1 := bulk_fig a
    simp only [PyData.bulk]
    omega
end PD
end

section
set_option maxHeartbeats 1000000
namespace PD
open PySem PySem.Spec PyProof.Rows L2
/-! ### a loop that stops at the first thing that is not good -/
theorem loopF_pre {α : Type} {g : GF} {body : SF} (f : α → PyData) (good : α → Prop) {all : List α} (R : List α → Env → Prop) (Z : SO → Prop) {Γ0 : Env} (h0 : R [] Γ0)
    (step : ∀ done a rest Γ, all = done ++ a :: rest → R done Γ → (good a ∧ ∃ Γ', turnF g body (f a) Γ = .nx Γ' ∧ R (done ++ [a]) Γ') ∨ (¬ good a ∧ ∃ r Γ', turnF g body (f a) Γ = .rt r Γ' ∧ Z (.rt r Γ'))) :
    ((∀ a ∈ all, good a) ∧ ∃ Γ', loopF g body (all.map f) Γ0 = .nx Γ' ∧ R all Γ') ∨ ((∃ a ∈ all, ¬ good a) ∧ ∃ r Γ', loopF g body (all.map f) Γ0 = .rt r Γ' ∧ Z (.rt r Γ')) := by
  suffices h : ∀ rest done Γ, all = done ++ rest → R done Γ → ((∀ a ∈ rest, good a) ∧ ∃ Γ', loopF g body (rest.map f) Γ = .nx Γ' ∧ R all Γ') ∨ ((∃ a ∈ rest, ¬ good a) ∧ ∃ r Γ', loopF g body (rest.map f) Γ = .rt r Γ' ∧ Z (.rt r Γ')) from h all [] Γ0 rfl h0
  intro rest
  induction rest with
  | nil =>
    intro done Γ e r
    rw [List.append_nil] at e
    exact .inl ⟨fun a h => (nomatch h), Γ, rfl, e ▸ r⟩
  | cons a rest ih =>
    intro done Γ e r
    rw [List.map_cons, loopF_cons]
    rcases step done a rest Γ e r with ⟨ga, Γ1, e1, r1⟩ | ⟨ga, rr, Γ1, e1, z⟩
    · rw [e1]
      rcases ih (done ++ [a]) Γ1 (by rw [e, List.append_assoc]; rfl) r1 with ⟨gs, Γ', e2, r2⟩ | ⟨⟨b, hb, nb⟩, rr, Γ', e2, z⟩
      · exact .inl ⟨fun b hb => by rcases List.mem_cons.mp hb with h | h; exact h ▸ ga; exact gs b h, Γ', e2, r2⟩
      · exact .inr ⟨⟨b, List.mem_cons_of_mem _ hb, nb⟩, rr, Γ', e2, z⟩
    · rw [e1]
      exact .inr ⟨⟨a, List.mem_cons_self, ga⟩, rr, Γ1, rfl, z⟩
/-! ### two figures put together -/
def goodP (f : FigL) (q : Cell × Int) : Prop := ∀ v, fget f q.1 = some v → v ≠ 4 ∧ q.2 ≠ 4 ∧ (v + 2) % 4 = q.2
def closed (f o : FigL) : FigL := (f.map fun q => if q.1 ∈ fkeys o then (q.1, 4) else q) ++ o.filter fun q => decide (q.1 ∉ fkeys f)
theorem closed_nil (f : FigL) : closed f [] = f := by
  unfold closed
  simp
theorem fkeys_map1 (f : FigL) (P : Cell → Prop) [DecidablePred P] (v : Cell × Int → Int) : fkeys (f.map fun q => if P q.1 then (q.1, v q) else q) = fkeys f := by
  unfold fkeys
  rw [List.map_map]
  congr 1
  funext q
  simp only [Function.comp]
  split <;> rfl
theorem fkeys_closed (f o : FigL) : fkeys (closed f o) = fkeys f ++ (fkeys o).filter fun p => decide (p ∉ fkeys f) := by
  unfold closed
  rw [fkeys_append, fkeys_map1 f (fun p => p ∈ fkeys o) fun _ => 4]
  congr 1
  unfold fkeys
  rw [List.filter_map]
  rfl
theorem closed_nodup {f o : FigL} (nf : (fkeys f).Nodup) (no : (fkeys o).Nodup) : (fkeys (closed f o)).Nodup := by
  rw [fkeys_closed, List.nodup_append]
  refine ⟨nf, no.filter _, fun a ha b hb => ?_⟩
  have := List.mem_filter.mp hb
  have h2 := of_decide_eq_true this.2
  exact fun z => h2 (z ▸ ha)
theorem fget_map1 (f : FigL) (P : Cell → Prop) [DecidablePred P] (v : Int) (p : Cell) : fget (f.map fun q => if P q.1 then (q.1, v) else q) p = if P p then (fget f p).map (fun _ => v) else fget f p := by
  induction f with
  | nil => simp
  | cons q f ih =>
    rw [List.map_cons, fget_cons, fget_cons, ih]
    by_cases hq : q.1 = p
    · subst hq
      by_cases hp : P q.1
      · simp [hp]
      · simp [hp]
    · by_cases hp : P q.1
      · simp [hp, hq]
      · simp [hp, hq]
theorem fget_filter (o : FigL) (P : Cell → Bool) (p : Cell) : fget (o.filter fun q => P q.1) p = if P p = true then fget o p else none := by
  induction o with
  | nil => simp
  | cons q o ih =>
    rw [List.filter_cons]
    by_cases hq : q.1 = p
    · subst hq
      by_cases hp : P q.1 = true
      · simp [hp, fget_cons]
      · rw [if_neg hp, ih, if_neg hp, if_neg hp]
    · by_cases hp : P q.1 = true
      · rw [if_pos hp, fget_cons, if_neg hq, ih, fget_cons, if_neg hq]
      · rw [if_neg hp, ih, fget_cons, if_neg hq]
theorem fget_closed (f o : FigL) (p : Cell) : fget (closed f o) p = match fget f p with
    | some v => if p ∈ fkeys o then some 4 else some v
    | none => fget o p := by
  unfold closed
  rw [fget_append, fget_map1 f (fun p => p ∈ fkeys o) 4 p, fget_filter o (fun p => decide (p ∉ fkeys f)) p]
  cases e : fget f p with
  | some v =>
    simp only [Option.map_some]
    split <;> rfl
  | none =>
    have := fget_none.mp e
    simp [this]
theorem closed_snoc {f done : FigL} {q : Cell × Int} (nd : (fkeys (done ++ [q])).Nodup) : closed f (done ++ [q]) = if q.1 ∈ fkeys f then fput (closed f done) q.1 4 else fput (closed f done) q.1 q.2 := by
  rw [fkeys_append, List.nodup_append] at nd
  have hq : q.1 ∉ fkeys done := fun z => nd.2.2 q.1 z q.1 (by simp) rfl
  by_cases h : q.1 ∈ fkeys f
  · rw [if_pos h]
    have hm : q.1 ∈ fkeys (closed f done) := by
      rw [fkeys_closed]
      exact List.mem_append_left _ h
    unfold fput
    rw [if_pos hm]
    unfold closed
    rw [List.map_append, List.filter_append]
    have e1 : List.filter (fun x : Cell × Int => decide (x.1 ∉ fkeys f)) [q] = [] := by simp [h]
    rw [e1, List.append_nil]
    congr 1
    · rw [List.map_map]
      apply List.map_congr_left
      intro x hx
      simp only [Function.comp, fkeys_append, List.mem_append, fkeys_cons, fkeys_nil, List.mem_singleton]
      by_cases h1 : x.1 ∈ fkeys done
      · simp only [h1, true_or, if_true]
        split <;> simp_all
      · by_cases h2 : x.1 = q.1
        · rw [if_pos (Or.inr h2), if_neg h1, if_pos h2]
        · simp [h1, h2]
    · symm
      have : ∀ x ∈ List.filter (fun x : Cell × Int => decide (x.1 ∉ fkeys f)) done, (if x.1 = q.1 then (x.1, (4 : Int)) else x) = x := fun x hx => by
        have hx2 := (List.mem_filter.mp hx).1
        have : x.1 ≠ q.1 := fun z => hq (z ▸ List.mem_map_of_mem (f := (·.1)) hx2)
        rw [if_neg this]
      rw [List.map_congr_left this]
      exact List.map_id _
  · rw [if_neg h]
    have hm : q.1 ∉ fkeys (closed f done) := by
      rw [fkeys_closed, List.mem_append]
      rintro (z | z)
      · exact h z
      · exact hq (List.mem_filter.mp z).1
    rw [fput_new hm]
    unfold closed
    rw [List.filter_append, ← List.append_assoc]
    have e1 : List.filter (fun x : Cell × Int => decide (x.1 ∉ fkeys f)) [q] = [q] := by simp [h]
    rw [e1]
    congr 2
    apply List.map_congr_left
    intro x hx
    have : x.1 ≠ q.1 := fun z => h (z ▸ List.mem_map_of_mem (f := (·.1)) hx)
    simp [this]
theorem closed_length (f o : FigL) : (closed f o).length ≤ f.length + o.length := by
  unfold closed
  rw [List.length_append, List.length_map]
  have := List.length_filter_le (fun q : Cell × Int => decide (q.1 ∉ fkeys f)) o
  omega
/-! ### what is left -/
def within (f o : FigL) : Bool := o.all fun q => match fget f q.1 with
  | some v => decide (v = 4 ∨ v = q.2)
  | none => false
def restL (f o : FigL) : FigL := f.filterMap fun q => match fget o q.1 with
  | none => some q
  | some v => if q.2 = 4 ∧ v ≠ 4 then some (q.1, (v + 2) % 4) else none
theorem within_iff {f o : FigL} : within f o = true ↔ ∀ q ∈ o, ∃ v, fget f q.1 = some v ∧ (v = 4 ∨ v = q.2) := by
  unfold within
  rw [List.all_eq_true]
  constructor
  · intro h q hq
    have := h q hq
    cases e : fget f q.1 with
    | none =>
      rw [e] at this
      cases this
    | some v =>
      rw [e] at this
      exact ⟨v, rfl, of_decide_eq_true this⟩
  · intro h q hq
    obtain ⟨v, e, h⟩ := h q hq
    rw [e]
    exact decide_eq_true h
theorem fget_filterMap (f : FigL) (h : Cell → Int → Option Int) (nd : (fkeys f).Nodup) (p : Cell) : fget (f.filterMap fun q => (h q.1 q.2).map fun v => (q.1, v)) p = (fget f p).bind (h p) := by
  induction f with
  | nil => rfl
  | cons q f ih =>
    rw [fkeys_cons, List.nodup_cons] at nd
    rw [List.filterMap_cons, fget_cons]
    have ih := ih nd.2
    by_cases hq : q.1 = p
    · subst hq
      rw [if_pos rfl]
      cases e : h q.1 q.2 with
      | none =>
        simp only [Option.map_none]
        rw [ih, fget_none.mpr nd.1]
        simp [e]
      | some v =>
        simp only [Option.map_some]
        rw [fget_cons, if_pos rfl]
        simp [e]
    · rw [if_neg hq]
      cases e : h q.1 q.2 with
      | none =>
        simp only [Option.map_none]
        exact ih
      | some v =>
        simp only [Option.map_some]
        rw [fget_cons, if_neg hq]
        exact ih
def restH (o : FigL) (p : Cell) (x : Int) : Option Int := match fget o p with
  | none => some x
  | some v => if x = 4 ∧ v ≠ 4 then some ((v + 2) % 4) else none
theorem restL_eq (f o : FigL) : restL f o = f.filterMap fun q => (restH o q.1 q.2).map fun v => (q.1, v) := by
  unfold restL
  congr 1
  funext q
  unfold restH
  cases fget o q.1 with
  | none => rfl
  | some v =>
    simp only
    split <;> rfl
theorem fget_rest (f o : FigL) (nd : (fkeys f).Nodup) (p : Cell) : fget (restL f o) p = (fget f p).bind (restH o p) := by
  rw [restL_eq]
  exact fget_filterMap f (restH o) nd p
theorem fkeys_filterMap_sub (f : FigL) (h : Cell → Int → Option Int) : (fkeys (f.filterMap fun q => (h q.1 q.2).map fun v => (q.1, v))).Sublist (fkeys f) := by
  induction f with
  | nil => exact List.Sublist.refl _
  | cons q f ih =>
    rw [List.filterMap_cons]
    cases e : h q.1 q.2 with
    | none =>
      simp only [Option.map_none]
      exact ih.cons _
    | some v =>
      simp only [Option.map_some]
      exact ih.cons_cons _
theorem rest_nodup {f o : FigL} (nd : (fkeys f).Nodup) : (fkeys (restL f o)).Nodup := by
  rw [restL_eq]
  exact nd.sublist (fkeys_filterMap_sub f (restH o))
theorem rest_length (f o : FigL) : (restL f o).length ≤ f.length := List.length_filterMap_le _ _
/-! ### what comes back -/
theorem back_one {f o : FigL} (nf : (fkeys f).Nodup) (no : (fkeys o).Nodup) (vf : ∀ q ∈ f, 0 ≤ q.2 ∧ q.2 ≤ 4) (hg : ∀ q ∈ o, goodP f q) : within (closed f o) o = true ∧ EqF (restL (closed f o) o) f := by
  constructor
  · rw [within_iff]
    intro q hq
    rw [fget_closed]
    have hk : q.1 ∈ fkeys o := List.mem_map_of_mem (f := (·.1)) hq
    cases e : fget f q.1 with
    | some v => exact ⟨4, by simp [hk], .inl rfl⟩
    | none => exact ⟨q.2, fget_at no hq, .inr rfl⟩
  · refine EqF.of_fget (rest_nodup (closed_nodup nf no)) nf fun p => ?_
    rw [fget_rest _ _ (closed_nodup nf no), fget_closed]
    unfold restH
    cases e : fget f p with
    | some v =>
      have hv := vf _ (fget_mem e)
      simp only at hv
      cases eo : fget o p with
      | some w =>
        have hk := fget_key eo
        obtain ⟨g1, g2, g3⟩ := hg _ (fget_mem eo) v e
        simp only at g2 g3
        simp only [hk, if_true, Option.bind_some]
        rw [if_pos ⟨trivial, g2⟩]
        congr 1
        omega
      | none =>
        have hk := fget_none.mp eo
        simp [hk]
    | none =>
      cases eo : fget o p with
      | some w =>
        simp
      | none => rfl
theorem back_two {f o : FigL} (nf : (fkeys f).Nodup) (no : (fkeys o).Nodup) (vo : ∀ q ∈ o, 0 ≤ q.2 ∧ q.2 ≤ 4) (hg : ∀ q ∈ o, goodP f q) : within (closed f o) f = true ∧ EqF (restL (closed f o) f) o := by
  constructor
  · rw [within_iff]
    intro q hq
    rw [fget_closed, fget_at nf hq]
    by_cases hk : q.1 ∈ fkeys o
    · exact ⟨4, by simp [hk], .inl rfl⟩
    · exact ⟨q.2, by simp [hk], .inr rfl⟩
  · refine EqF.of_fget (rest_nodup (closed_nodup nf no)) no fun p => ?_
    rw [fget_rest _ _ (closed_nodup nf no), fget_closed]
    unfold restH
    cases e : fget f p with
    | some v =>
      cases eo : fget o p with
      | some w =>
        have hk := fget_key eo
        obtain ⟨g1, g2, g3⟩ := hg _ (fget_mem eo) v e
        simp only at g2 g3
        simp only [hk, if_true, Option.bind_some]
        rw [if_pos ⟨trivial, g1⟩, g3]
      | none =>
        have hk := fget_none.mp eo
        simp only [hk, if_false, Option.bind_some]
        rw [if_neg (fun z => z.2 z.1)]
    | none =>
      cases eo : fget o p with
      | some w => rfl
      | none => rfl
theorem back_three {f o : FigL} (nf : (fkeys f).Nodup) (no : (fkeys o).Nodup) (vo : ∀ q ∈ o, 0 ≤ q.2 ∧ q.2 ≤ 4) (hw : within f o = true) :
    (∀ q ∈ o, goodP (restL f o) q) ∧ EqF (closed (restL f o) o) f ∧ within f (restL f o) = true := by
  have hw' := within_iff.mp hw
  refine ⟨fun q hq v e => ?_, EqF.of_fget (closed_nodup (rest_nodup nf) no) nf fun p => ?_, within_iff.mpr fun q hq => ?_⟩
  · rw [fget_rest _ _ nf] at e
    obtain ⟨x, e1, e2⟩ := Option.bind_eq_some_iff.mp e
    unfold restH at e2
    rw [fget_at no hq] at e2
    simp only at e2
    split at e2
    · rename_i h
      have hv := vo q hq
      cases e2
      omega
    · cases e2
  · rw [fget_closed, fget_rest _ _ nf]
    unfold restH
    cases e : fget f p with
    | none =>
      simp only [Option.bind_none]
      cases eo : fget o p with
      | none => rfl
      | some w =>
        obtain ⟨v, e1, _⟩ := hw' _ (fget_mem eo)
        simp only at e1
        rw [e] at e1
        cases e1
    | some v =>
      simp only [Option.bind_some]
      cases eo : fget o p with
      | none =>
        have hk := fget_none.mp eo
        simp [hk]
      | some w =>
        have hk := fget_key eo
        obtain ⟨v', e1, e2⟩ := hw' _ (fget_mem eo)
        simp only at e1 e2
        rw [e] at e1
        cases e1
        by_cases h : v = 4 ∧ w ≠ 4
        · simp [h.1, h.2, hk]
        · simp only [if_neg h]
          congr 1
          rcases e2 with e2 | e2
          · have : w = 4 := Classical.byContradiction fun z => h ⟨e2, z⟩
            rw [this, e2]
          · exact e2.symm
  · have e := fget_at (rest_nodup nf) hq
    rw [fget_rest _ _ nf] at e
    obtain ⟨x, e1, e2⟩ := Option.bind_eq_some_iff.mp e
    refine ⟨x, e1, ?_⟩
    unfold restH at e2
    split at e2
    · cases e2
      exact .inr rfl
    · split at e2
      · rename_i h
        exact .inl h.1
      · cases e2
theorem rest_vals {f o : FigL} (nf : (fkeys f).Nodup) (vf : ∀ q ∈ f, 0 ≤ q.2 ∧ q.2 ≤ 4) : ∀ q ∈ restL f o, 0 ≤ q.2 ∧ q.2 ≤ 4 := fun q hq => by
  have e := fget_at (rest_nodup nf) hq
  rw [fget_rest _ _ nf] at e
  obtain ⟨x, e1, e2⟩ := Option.bind_eq_some_iff.mp e
  unfold restH at e2
  split at e2
  · cases e2
    exact vf _ (fget_mem e1)
  · split at e2
    · have := Option.some.inj e2
      omega
    · cases e2
theorem closed_vals {f o : FigL} (nf : (fkeys f).Nodup) (no : (fkeys o).Nodup) (vf : ∀ q ∈ f, 0 ≤ q.2 ∧ q.2 ≤ 4) (vo : ∀ q ∈ o, 0 ≤ q.2 ∧ q.2 ≤ 4) : ∀ q ∈ closed f o, 0 ≤ q.2 ∧ q.2 ≤ 4 := fun q hq => by
  have e := fget_at (closed_nodup nf no) hq
  rw [fget_closed] at e
  split at e
  · rename_i v e1
    split at e
    · have := Option.some.inj e
      omega
    · have := Option.some.inj e
      rw [← this]
      exact vf _ (fget_mem e1)
  · exact vo _ (fget_mem e)
/-! ### halves add up -/
theorem halves_append (a b : FigL) : halves (a ++ b) = halves a + halves b := by
  unfold halves
  rw [List.map_append, List.sum_append]
theorem halves_map (f : FigL) (S : List Cell) (h : ∀ q ∈ f, q.1 ∈ S → q.2 ≠ 4) : halves (f.map fun q => if q.1 ∈ S then (q.1, 4) else q) = halves f + ((f.filter fun q => decide (q.1 ∈ S)).length : Nat) := by
  induction f with
  | nil => rfl
  | cons q f ih =>
    have ih := ih fun x hx => h x (List.mem_cons_of_mem _ hx)
    have hq := h q List.mem_cons_self
    unfold halves at *
    rw [List.map_cons, List.map_cons, List.sum_cons, ih, List.map_cons, List.sum_cons, List.filter_cons]
    by_cases z : q.1 ∈ S
    · have := hq z
      simp only [z, if_true, decide_true, List.length_cons, halfs]
      rw [if_neg this]
      omega
    · simp only [z, if_false, decide_false, Bool.false_eq_true]
      omega
theorem halves_split (o : FigL) (S : List Cell) (h : ∀ q ∈ o, q.1 ∈ S → q.2 ≠ 4) : halves o = halves (o.filter fun q => decide (q.1 ∉ S)) + ((o.filter fun q => decide (q.1 ∈ S)).length : Nat) := by
  induction o with
  | nil => rfl
  | cons q o ih =>
    have ih := ih fun x hx => h x (List.mem_cons_of_mem _ hx)
    have hq := h q List.mem_cons_self
    unfold halves at *
    rw [List.map_cons, List.sum_cons, ih, List.filter_cons, List.filter_cons]
    by_cases z : q.1 ∈ S
    · have := hq z
      simp only [z, not_true, decide_false, Bool.false_eq_true, if_false, decide_true, if_true, List.length_cons, halfs]
      rw [if_neg this]
      omega
    · simp only [z, not_false_eq_true, decide_true, if_true, decide_false, Bool.false_eq_true, if_false, List.map_cons, List.sum_cons]
      omega
theorem common_len {f o : FigL} (nf : (fkeys f).Nodup) (no : (fkeys o).Nodup) : (f.filter fun q => decide (q.1 ∈ fkeys o)).length = (o.filter fun q => decide (q.1 ∈ fkeys f)).length := by
  have e : ∀ (a : FigL) (S : List Cell), fkeys (a.filter fun q => decide (q.1 ∈ S)) = (fkeys a).filter fun p => decide (p ∈ S) := fun a S => by
    unfold fkeys
    rw [List.filter_map]
    rfl
  have pm : (fkeys (f.filter fun q => decide (q.1 ∈ fkeys o))).Perm (fkeys (o.filter fun q => decide (q.1 ∈ fkeys f))) := by
    rw [e, e]
    refine (List.perm_ext_iff_of_nodup (nf.filter _) (no.filter _)).mpr fun p => ?_
    rw [List.mem_filter, List.mem_filter]
    simp only [decide_eq_true_eq]
    exact ⟨fun h => ⟨h.2, h.1⟩, fun h => ⟨h.2, h.1⟩⟩
  have := pm.length_eq
  rw [fkeys_length, fkeys_length] at this
  exact this
theorem halves_closed {f o : FigL} (nf : (fkeys f).Nodup) (no : (fkeys o).Nodup) (hg : ∀ q ∈ o, goodP f q) : halves (closed f o) = halves f + halves o := by
  have h1 : ∀ q ∈ f, q.1 ∈ fkeys o → q.2 ≠ 4 := fun q hq hk => by
    obtain ⟨r, hr, e⟩ := List.mem_map.mp hk
    have ef := fget_at nf hq
    rw [← e] at ef
    exact (hg r hr _ ef).1
  have h2 : ∀ q ∈ o, q.1 ∈ fkeys f → q.2 ≠ 4 := fun q hq hk => by
    have e : (fget f q.1).isSome = true := by
      rw [fget_isSome]
      exact decide_eq_true hk
    obtain ⟨v, ev⟩ := Option.isSome_iff_exists.mp e
    exact (hg q hq v ev).2.1
  have c := common_len nf no
  unfold closed
  rw [halves_append, halves_map f (fkeys o) h1, halves_split o (fkeys f) h2, c]
  omega
end PD
end

section
set_option maxHeartbeats 1000000
namespace PD
open PySem PySem.Spec PyProof.Rows L2
@[simp] theorem in_two (a v w : Int) : opIn [.int a, .tuple [.int v, .int w]] = some (.fro (.bool (v == a || w == a))) := by
  have e : inD [.int a, .tuple [.int v, .int w]] = some ([PyData.int v, .int w].any fun z => PyData.eqv z (.int a)) := by
    show (if SeqAt.shaped (.int a) = true ∧ SeqAt.shaped (.tuple [.int v, .int w]) = true then _ else none) = _
    exact if_pos ⟨rfl, rfl⟩
  unfold opIn
  rw [e]
  simp [PyData.eqv]
@[simp] theorem dcF_eq (tup : Bool) (vs : List Nat) (it : IF) (g : GF) (t : TF) (kf vf : EF) (Γ : Env) : dcF tup vs it g t kf vf Γ = (it Γ).bind fun items Γ1 => (dcL vs g t kf vf items (dNew tup) (wipeE Γ1 vs)).bind fun c Γ2 => .ok (.nw c) (backE Γ1 vs Γ2) := rfl
@[simp] theorem dNew_true : dNew true = .dct [] := rfl
@[simp] theorem listItF_eq (a : ArgF) (Γ : Env) : listItF a Γ = (evalArg a Γ).bind fun av Γ' => (ofOpt (av.get Γ') Γ').bind fun d Γ' => match d with
  | .dict kvs => .ok (.nw (.lst (pairsD kvs))) Γ'
  | _ => .bad := rfl
theorem five {v : Int} (h : 0 ≤ v ∧ v ≤ 4) : v = 0 ∨ v = 1 ∨ v = 2 ∨ v = 3 ∨ v = 4 := by omega
/-! ### put together -/
theorem lput_old (F O : PyData) (found : FigL) (o : FigL) (p : Cell) (v w : Int) (x3 : Option SV) (eo : fget o p = some w) (ef : fget found p = some v) (hv : 0 ≤ v ∧ v ≤ 4) (hw : 0 ≤ w ∧ w ≤ 4) (hl : found.length ≤ 1000000) :
    turnF (nameG 3) B__law_put_0 (ckey p) [some (.fro F), some (.fro (.dict (figD o))), some (.own none (.dct (figD found))), x3] = if v ≠ 4 ∧ w ≠ 4 ∧ (v + 2) % 4 = w
      then .nx [some (.fro F), some (.fro (.dict (figD o))), some (.own none (.dct (figD (fput found p 4)))), some (.fro (ckey p))]
      else .rt (.fro .none) [some (.fro F), some (.fro (.dict (figD o))), some (.own none (.dct (figD found))), some (.fro (ckey p))] := by
  have hk := fget_key ef
  have po := putO_fig p 4 hl
  rcases five hv with rfl | rfl | rfl | rfl | rfl <;> rcases five hw with rfl | rfl | rfl | rfl | rfl <;> simp [turnF, B__law_put_0, eo, ef, hk, po]
theorem lput_new (F O : PyData) (found : FigL) (o : FigL) (p : Cell) (w : Int) (x3 : Option SV) (eo : fget o p = some w) (ef : fget found p = none) (hl : found.length ≤ 1000000) :
    turnF (nameG 3) B__law_put_0 (ckey p) [some (.fro F), some (.fro (.dict (figD o))), some (.own none (.dct (figD found))), x3] =
      .nx [some (.fro F), some (.fro (.dict (figD o))), some (.own none (.dct (figD (fput found p w)))), some (.fro (ckey p))] := by
  have hk := fget_none.mp ef
  have po := putO_fig p w hl
  simp [turnF, B__law_put_0, eo, hk, po]
theorem tput_old (F O : PyData) (found : FigL) (o : FigL) (p : Cell) (v w : Int) (x3 : Option SV) (eo : fget o p = some w) (ef : fget found p = some v) (hv : 0 ≤ v ∧ v ≤ 4) (hw : 0 ≤ w ∧ w ≤ 4) (hl : found.length ≤ 1000000) :
    turnF (nameG 3) B_put_together_0 (ckey p) [some (.fro F), some (.fro (.dict (figD o))), some (.own none (.dct (figD found))), x3] = if v ≠ 4 ∧ w ≠ 4 ∧ (v + 2) % 4 = w
      then .nx [some (.fro F), some (.fro (.dict (figD o))), some (.own none (.dct (figD (fput found p 4)))), some (.fro (ckey p))]
      else .rt (.fro .none) [some (.fro F), some (.fro (.dict (figD o))), some (.own none (.dct (figD found))), some (.fro (ckey p))] := by
  have hk := fget_key ef
  have po := putO_fig p 4 hl
  rcases five hv with rfl | rfl | rfl | rfl | rfl <;> rcases five hw with rfl | rfl | rfl | rfl | rfl <;> simp [turnF, B_put_together_0, eo, ef, hk, po]
theorem tput_new (F O : PyData) (found : FigL) (o : FigL) (p : Cell) (w : Int) (x3 : Option SV) (eo : fget o p = some w) (ef : fget found p = none) (hl : found.length ≤ 1000000) :
    turnF (nameG 3) B_put_together_0 (ckey p) [some (.fro F), some (.fro (.dict (figD o))), some (.own none (.dct (figD found))), x3] =
      .nx [some (.fro F), some (.fro (.dict (figD o))), some (.own none (.dct (figD (fput found p w)))), some (.fro (ckey p))] := by
  have hk := fget_none.mp ef
  have po := putO_fig p w hl
  simp [turnF, B_put_together_0, eo, hk, po]
/-- both loops -/
theorem put_loop (body : SF) (f o : FigL) (nf : (fkeys f).Nodup) (no : (fkeys o).Nodup) (vf : ∀ q ∈ f, 0 ≤ q.2 ∧ q.2 ≤ 4) (vo : ∀ q ∈ o, 0 ≤ q.2 ∧ q.2 ≤ 4) (lf : f.length ≤ 100000) (lo : o.length ≤ 100000) (F : PyData)
    (old : ∀ (found : FigL) (p : Cell) (v w : Int) (x3 : Option SV), fget o p = some w → fget found p = some v → 0 ≤ v ∧ v ≤ 4 → 0 ≤ w ∧ w ≤ 4 → found.length ≤ 1000000 →
      turnF (nameG 3) body (ckey p) [some (.fro F), some (.fro (.dict (figD o))), some (.own none (.dct (figD found))), x3] = if v ≠ 4 ∧ w ≠ 4 ∧ (v + 2) % 4 = w
      then .nx [some (.fro F), some (.fro (.dict (figD o))), some (.own none (.dct (figD (fput found p 4)))), some (.fro (ckey p))]
      else .rt (.fro .none) [some (.fro F), some (.fro (.dict (figD o))), some (.own none (.dct (figD found))), some (.fro (ckey p))])
    (new : ∀ (found : FigL) (p : Cell) (w : Int) (x3 : Option SV), fget o p = some w → fget found p = none → found.length ≤ 1000000 →
      turnF (nameG 3) body (ckey p) [some (.fro F), some (.fro (.dict (figD o))), some (.own none (.dct (figD found))), x3] =
      .nx [some (.fro F), some (.fro (.dict (figD o))), some (.own none (.dct (figD (fput found p w)))), some (.fro (ckey p))]) :
    ((∀ q ∈ o, goodP f q) ∧ ∃ x3, loopF (nameG 3) body (o.map fun q => ckey q.1) [some (.fro F), some (.fro (.dict (figD o))), some (.own none (.dct (figD f))), none] = .nx [some (.fro F), some (.fro (.dict (figD o))), some (.own none (.dct (figD (closed f o)))), x3]) ∨
    ((∃ q ∈ o, ¬ goodP f q) ∧ ∃ x2 x3, loopF (nameG 3) body (o.map fun q => ckey q.1) [some (.fro F), some (.fro (.dict (figD o))), some (.own none (.dct (figD f))), none] = .rt (.fro .none) [some (.fro F), some (.fro (.dict (figD o))), x2, x3]) := by
  have h := loopF_pre (g := nameG 3) (body := body) (all := o) (fun q : Cell × Int => ckey q.1) (goodP f)
    (fun done Γ => ∃ x3, Γ = [some (.fro F), some (.fro (.dict (figD o))), some (.own none (.dct (figD (closed f done)))), x3])
    (fun s => ∃ x2 x3, s = .rt (.fro .none) [some (.fro F), some (.fro (.dict (figD o))), x2, x3])
    (Γ0 := [some (.fro F), some (.fro (.dict (figD o))), some (.own none (.dct (figD f))), none]) ⟨none, by rw [closed_nil]⟩ fun done q rest Γ e hR => by
      obtain ⟨x3, rfl⟩ := hR
      have hq : q ∈ o := by rw [e]; simp
      have nd : (fkeys (done ++ [q])).Nodup := by
        have := no
        rw [e, show done ++ q :: rest = (done ++ [q]) ++ rest by simp, fkeys_append] at this
        exact (List.nodup_append.mp this).1
      have hd : q.1 ∉ fkeys done := by
        rw [fkeys_append, List.nodup_append] at nd
        exact fun z => nd.2.2 q.1 z q.1 (by simp) rfl
      have eo := fget_at no hq
      have ll : (closed f done).length ≤ 1000000 := by
        have := closed_length f done
        have h2 : done.length ≤ o.length := by rw [e]; simp
        omega
      have ef : fget (closed f done) q.1 = fget f q.1 := by
        rw [fget_closed]
        cases z : fget f q.1 with
        | some v => simp [hd]
        | none => exact fget_none.mpr hd
      rw [closed_snoc nd]
      cases z : fget f q.1 with
      | none =>
        rw [z] at ef
        have hk := fget_none.mp z
        refine .inl ⟨fun v hv => (by rw [z] at hv; cases hv), _, new _ q.1 q.2 x3 eo ef ll, some (.fro (ckey q.1)), ?_⟩
        rw [if_neg hk]
      | some v =>
        rw [z] at ef
        have hk := fget_key z
        have t := old _ q.1 v q.2 x3 eo ef (vf _ (fget_mem z)) (vo q hq) ll
        by_cases g : v ≠ 4 ∧ q.2 ≠ 4 ∧ (v + 2) % 4 = q.2
        · rw [if_pos g] at t
          refine .inl ⟨fun v' hv => (by rw [z] at hv; cases hv; exact g), _, t, some (.fro (ckey q.1)), ?_⟩
          rw [if_pos hk]
        · rw [if_neg g] at t
          exact .inr ⟨fun z2 => g (z2 v z), _, _, t, _, _, rfl⟩
  rcases h with ⟨g, Γ', e, x3, rfl⟩ | ⟨g, r, Γ', e, x2, x3, z⟩
  · exact .inl ⟨g, x3, e⟩
  · rw [z] at e
    exact .inr ⟨g, x2, x3, e⟩
theorem no_all {f o : FigL} (h : ¬ ∀ q ∈ o, goodP f q) : ¬ (∀ q ∈ o, goodP f q) := h
theorem e_law_put (f o : FigL) (F : Fig f) (G : Fig o) :
    ((∀ q ∈ o, goodP f q) ∧ φ__law_put [.fro (.dict (figD f)), .fro (.dict (figD o))] = .ok (.nw (.dct (figD (closed f o)))) [.fro (.dict (figD f)), .fro (.dict (figD o))]) ∨
    ((∃ q ∈ o, ¬ goodP f q) ∧ φ__law_put [.fro (.dict (figD f)), .fro (.dict (figD o))] = .ok (.fro .none) [.fro (.dict (figD f)), .fro (.dict (figD o))]) := by
  have lf := F.len
  have lo := G.len
  have pd := pairsD_fig f
  have dd := dict_fig_nd f (by omega) F.nd
  have k := figD_fst o
  rcases put_loop B__law_put_0 f o F.nd G.nd F.val G.val (by omega) (by omega) (.dict (figD f)) (fun found p v w x3 a b c d e => lput_old _ (.dict (figD o)) found o p v w x3 a b c d e) (fun found p w x3 a b c => lput_new _ (.dict (figD o)) found o p w x3 a b c) with ⟨g, x3, e⟩ | ⟨g, x2, x3, e⟩
  · refine .inl ⟨g, ?_⟩
    generalize closed f o = t at *
    generalize figD f = fD at *
    generalize figD o = oD at *
    simp [φ__law_put, F__law_put, pd, dd, k, e]
  · refine .inr ⟨g, ?_⟩
    generalize figD f = fD at *
    generalize figD o = oD at *
    simp [φ__law_put, F__law_put, pd, dd, k, e]
theorem e_put (f o : FigL) (F : Fig f) (G : Fig o) :
    ((∀ q ∈ o, goodP f q) ∧ φ_put_together [.fro (.dict (figD f)), .fro (.dict (figD o))] = .ok (.nw (.dct (figD (closed f o)))) [.fro (.dict (figD f)), .fro (.dict (figD o))]) ∨
    ((∃ q ∈ o, ¬ goodP f q) ∧ φ_put_together [.fro (.dict (figD f)), .fro (.dict (figD o))] = .ok (.fro .none) [.fro (.dict (figD f)), .fro (.dict (figD o))]) := by
  have lf := F.len
  have lo := G.len
  have ck := e_check_two f o F G
  have kf := figD_fst f
  have k := figD_fst o
  have ix : ∀ q ∈ f, opIx [.dict (figD f), ckey q.1] = some (.fro (.int q.2)) := fun q hq => by
    rw [ix_fig, fget_at F.nd hq]
    rfl
  have dc := dcL_fig (vs := [3]) (g := nameG 3) (kf := varF 3) (vf := opF opIx [.s 0, .s 3]) (Γ := [some (.fro (.dict (figD f))), some (.fro (.dict (figD o))), none, none]) (fun q : Cell × Int => ckey q.1) id (all := f) (acc := []) (by simpa using by omega) fun q hq => by
    have ix := ix q hq
    generalize figD f = fD at *
    generalize figD o = oD at *
    refine ⟨[some (.fro (.dict fD)), some (.fro (.dict oD)), none, some (.fro (ckey q.1))], .fro (ckey q.1), [some (.fro (.dict fD)), some (.fro (.dict oD)), none, some (.fro (ckey q.1))], .fro (.int q.2), [some (.fro (.dict fD)), some (.fro (.dict oD)), none, some (.fro (ckey q.1))], rfl, rfl, ?_, rfl, rfl, rfl⟩
    generalize ckey q.1 = key at *
    simp [ix]
  rw [List.map_id, fputs_nodup (by simpa using F.nd), figD_nil, List.nil_append] at dc
  rcases put_loop B_put_together_0 f o F.nd G.nd F.val G.val (by omega) (by omega) (.dict (figD f)) (fun found p v w x3 a b c d e => tput_old _ (.dict (figD o)) found o p v w x3 a b c d e) (fun found p w x3 a b c => tput_new _ (.dict (figD o)) found o p w x3 a b c) with ⟨g, x3, e⟩ | ⟨g, x2, x3, e⟩
  · refine .inl ⟨g, ?_⟩
    generalize closed f o = t at *
    generalize figD f = fD at *
    generalize figD o = oD at *
    simp [φ_put_together, F_put_together, ck, kf, dc, k, e]
  · refine .inr ⟨g, ?_⟩
    generalize figD f = fD at *
    generalize figD o = oD at *
    simp [φ_put_together, F_put_together, ck, kf, dc, k, e]
end PD
end

section
set_option maxHeartbeats 1000000
namespace PD
open PySem PySem.Spec PyProof.Rows L2
def wOk (f : FigL) (q : Cell × Int) : Prop := ∃ v, fget f q.1 = some v ∧ (v = 4 ∨ v = q.2)
theorem within_all {f o : FigL} : within f o = true ↔ ∀ q ∈ o, wOk f q := within_iff
theorem rest_snoc (f o : FigL) (q : Cell × Int) : restL (f ++ [q]) o = restL f o ++ (match fget o q.1 with
  | none => [q]
  | some v => if q.2 = 4 ∧ v ≠ 4 then [(q.1, (v + 2) % 4)] else []) := by
  unfold restL
  rw [List.filterMap_append]
  congr 1
  rw [List.filterMap_cons, List.filterMap_nil]
  cases e : fget o q.1 with
  | none => rfl
  | some v =>
    by_cases h : q.2 = 4 ∧ v ≠ 4
    · simp only [if_pos h]
    · simp only [if_neg h]
theorem rest_key {f o : FigL} {p : Cell} (h : p ∈ fkeys (restL f o)) : p ∈ fkeys f := by
  rw [restL_eq] at h
  exact (fkeys_filterMap_sub f (restH o)).subset h
/-! ### the law's own -/
theorem k0_turn (f o : FigL) (p : Cell) (w : Int) (x2 x3 : Option SV) (eo : fget o p = some w) (hv : ∀ v, fget f p = some v → 0 ≤ v ∧ v ≤ 4) (hw : 0 ≤ w ∧ w ≤ 4) :
    (wOk f (p, w) ∧ turnF (nameG 3) B__law_kinds_0 (ckey p) [some (.fro (.dict (figD f))), some (.fro (.dict (figD o))), x2, x3] = .nx [some (.fro (.dict (figD f))), some (.fro (.dict (figD o))), x2, some (.fro (ckey p))]) ∨
    (¬ wOk f (p, w) ∧ turnF (nameG 3) B__law_kinds_0 (ckey p) [some (.fro (.dict (figD f))), some (.fro (.dict (figD o))), x2, x3] = .rt (.fro .none) [some (.fro (.dict (figD f))), some (.fro (.dict (figD o))), x2, some (.fro (ckey p))]) := by
  cases ef : fget f p with
  | none =>
    have hk := fget_none.mp ef
    refine .inr ⟨fun ⟨v, e, _⟩ => (by rw [ef] at e; cases e), ?_⟩
    simp [turnF, B__law_kinds_0, hk]
  | some v =>
    have hk := fget_key ef
    have hv := hv v ef
    by_cases h4 : v = 4
    · subst h4
      refine .inl ⟨⟨4, ef, .inl rfl⟩, ?_⟩
      simp [turnF, B__law_kinds_0, hk, ef]
    · by_cases hvw : v = w
      · subst hvw
        refine .inl ⟨⟨v, ef, .inr rfl⟩, ?_⟩
        simp [turnF, B__law_kinds_0, hk, ef, eo, h4]
      · refine .inr ⟨fun ⟨v', e, h⟩ => (by rw [ef] at e; cases e; exact h.elim h4 hvw), ?_⟩
        simp [turnF, B__law_kinds_0, hk, ef, eo, h4, hvw]
theorem k1_turn (f o : FigL) (q : Cell × Int) (found : FigL) (x3 : Option SV) (ef : fget f q.1 = some q.2) (fr : q.1 ∉ fkeys found) (hl : found.length ≤ 1000000) :
    turnF (nameG 3) B__law_kinds_1 (ckey q.1) [some (.fro (.dict (figD f))), some (.fro (.dict (figD o))), some (.own none (.dct (figD found))), x3] =
      .nx [some (.fro (.dict (figD f))), some (.fro (.dict (figD o))), some (.own none (.dct (figD (found ++ (match fget o q.1 with
  | none => [q]
  | some v => if q.2 = 4 ∧ v ≠ 4 then [(q.1, (v + 2) % 4)] else []))))), some (.fro (ckey q.1))] := by
  obtain ⟨p, x⟩ := q
  simp only at ef fr ⊢
  cases eo : fget o p with
  | none =>
    have hk := fget_none.mp eo
    have po := putO_fig p x hl
    rw [fput_new fr] at po
    simp [turnF, B__law_kinds_1, hk, ef, po]
  | some v =>
    have hk := fget_key eo
    have po := putO_fig p ((v + 2) % 4) hl
    rw [fput_new fr] at po
    by_cases h4 : x = 4
    · subst h4
      by_cases h : v = 4
      · subst h
        simp [turnF, B__law_kinds_1, hk, ef, eo]
      · simp [turnF, B__law_kinds_1, hk, ef, eo, h, po]
    · simp [turnF, B__law_kinds_1, hk, ef, eo, h4]
theorem rest_loop (body : SF) (f o : FigL) (nf : (fkeys f).Nodup) (lf : f.length ≤ 100000)
    (turn : ∀ (q : Cell × Int) (found : FigL) (x3 : Option SV), q ∈ f → q.1 ∉ fkeys found → found.length ≤ 1000000 → turnF (nameG 3) body (ckey q.1) [some (.fro (.dict (figD f))), some (.fro (.dict (figD o))), some (.own none (.dct (figD found))), x3] =
      .nx [some (.fro (.dict (figD f))), some (.fro (.dict (figD o))), some (.own none (.dct (figD (found ++ (match fget o q.1 with
  | none => [q]
  | some v => if q.2 = 4 ∧ v ≠ 4 then [(q.1, (v + 2) % 4)] else []))))), some (.fro (ckey q.1))]) (y3 : Option SV) :
    ∃ x3, loopF (nameG 3) body (f.map fun q => ckey q.1) [some (.fro (.dict (figD f))), some (.fro (.dict (figD o))), some (.own none (.dct [])), y3] = .nx [some (.fro (.dict (figD f))), some (.fro (.dict (figD o))), some (.own none (.dct (figD (restL f o)))), x3] := by
  obtain ⟨Γ', e, x3, rfl⟩ := loopF_all (g := nameG 3) (body := body) (fun q : Cell × Int => ckey q.1) (all := f)
    (fun done Γ => ∃ x3, Γ = [some (.fro (.dict (figD f))), some (.fro (.dict (figD o))), some (.own none (.dct (figD (restL done o)))), x3])
    (Γ0 := [some (.fro (.dict (figD f))), some (.fro (.dict (figD o))), some (.own none (.dct [])), y3]) ⟨y3, rfl⟩ fun done q rest Γ e hR => by
      obtain ⟨x3, rfl⟩ := hR
      have hq : q ∈ f := by rw [e]; simp
      have hd : q.1 ∉ fkeys done := by
        have := nf
        rw [e, fkeys_append, fkeys_cons, List.nodup_append] at this
        exact fun z => this.2.2 q.1 z q.1 List.mem_cons_self rfl
      have fr : q.1 ∉ fkeys (restL done o) := fun z => hd (rest_key z)
      have ll : (restL done o).length ≤ 1000000 := by
        have := rest_length done o
        have h2 : done.length ≤ f.length := by rw [e]; simp
        omega
      refine ⟨_, turn q (restL done o) x3 hq fr ll, some (.fro (ckey q.1)), ?_⟩
      rw [rest_snoc] <;> rfl
  exact ⟨x3, e⟩
theorem e_kinds (f o : FigL) (F : Fig f) (G : Fig o) : φ__law_kinds [.fro (.dict (figD f)), .fro (.dict (figD o))] = .ok (if within f o = true then .nw (.dct (figD (restL f o))) else .fro .none) [.fro (.dict (figD f)), .fro (.dict (figD o))] := by
  have kf := figD_fst f
  have k := figD_fst o
  have lf := F.len
  have h := loopF_pre (g := nameG 3) (body := B__law_kinds_0) (all := o) (fun q : Cell × Int => ckey q.1) (wOk f)
    (fun done Γ => ∃ x3, Γ = [some (.fro (.dict (figD f))), some (.fro (.dict (figD o))), some (.own none (.dct [])), x3])
    (fun s => ∃ x2 x3, s = .rt (.fro .none) [some (.fro (.dict (figD f))), some (.fro (.dict (figD o))), x2, x3])
    (Γ0 := [some (.fro (.dict (figD f))), some (.fro (.dict (figD o))), some (.own none (.dct [])), none]) ⟨none, rfl⟩ fun done q rest Γ e hR => by
      obtain ⟨x3, rfl⟩ := hR
      have hq : q ∈ o := by rw [e]; simp
      rcases k0_turn f o q.1 q.2 (some (.own none (.dct []))) x3 (fget_at G.nd hq) (fun v z => F.val _ (fget_mem z)) (G.val q hq) with ⟨g, t⟩ | ⟨g, t⟩
      · exact .inl ⟨g, _, t, _, rfl⟩
      · exact .inr ⟨g, _, _, t, _, _, rfl⟩
  rcases h with ⟨g, Γ', e, x3, rfl⟩ | ⟨⟨q, hq, nq⟩, r, Γ', e, x2, x3, z⟩
  · have w := within_all.mpr g
    obtain ⟨y3, e2⟩ := rest_loop B__law_kinds_1 f o F.nd (by omega) (fun q found x3 hq fr hl => k1_turn f o q found x3 (fget_at F.nd hq) fr hl) x3
    rw [if_pos w]
    generalize restL f o = r at *
    generalize figD f = fD at *
    generalize figD o = oD at *
    simp [φ__law_kinds, F__law_kinds, kf, k, e, e2]
  · rw [z] at e
    have w : ¬ within f o = true := fun y => nq (within_all.mp y q hq)
    rw [if_neg w]
    generalize figD f = fD at *
    generalize figD o = oD at *
    simp [φ__law_kinds, F__law_kinds, kf, k, e]
/-! ### the program's -/
theorem e_is_within (f o : FigL) (F : Fig f) (G : Fig o) : φ_is_within [.fro (.dict (figD f)), .fro (.dict (figD o))] = .ok (.fro (.bool (within f o))) [.fro (.dict (figD f)), .fro (.dict (figD o))] := by
  have k := figD_fst o
  have z : small24 (o.map fun q => ckey q.1).length = true := small24_of (by rw [List.length_map]; have := G.len; omega)
  have lc := lcL_each (vs := [2]) (g := nameG 2) (elt := andVF (opF opIn [.s 2, .s 0]) (opF opIn [.e (opF opIx [.s 0, .s 2]), .e (tupF [cF (.int 4), opF opIx [.s 1, .s 2]])]))
    (Γ := [some (.fro (.dict (figD f))), some (.fro (.dict (figD o))), none]) (fun q : Cell × Int => ckey q.1) (fun q => .bool (match fget f q.1 with
  | some v => decide (v = 4 ∨ v = q.2)
  | none => false)) (all := o) fun q hq => by
    obtain ⟨p, w⟩ := q
    have eo := fget_at G.nd hq
    simp only at eo ⊢
    refine ⟨[some (.fro (.dict (figD f))), some (.fro (.dict (figD o))), some (.fro (ckey p))], .fro (.bool (match fget f p with
      | some v => decide (v = 4 ∨ v = w)
      | none => false)), [some (.fro (.dict (figD f))), some (.fro (.dict (figD o))), some (.fro (ckey p))], rfl, ?_, rfl, rfl⟩
    cases ef : fget f p with
    | none =>
      have hk := fget_none.mp ef
      simp [hk]
    | some v =>
      have hk := fget_key ef
      simp only [andVF_eq, boolF_eq, opF_eq, evalArgs_cons, evalArg_s, slotD_succ, slotD_zero, ofOpt_some, Res.bind_ok, evalArgs_nil, getAll_cons, get_s, Option.map_some, svD_fro, Option.bind_some, getAll_nil, in_fig, hk, decide_true, asB_bool, if_true, evalArg_e, ix_fig, ef, toD_fro, tupF_eq, evalFs_cons, cF_eq, eo, evalFs_nil, get_d, in_two]
      congr 3
      by_cases h4 : v = 4
      · simp [h4]
      · by_cases hw : v = w
        · simp [hw]
        · have h5 : ¬ 4 = v := fun z => h4 z.symm
          have h6 : ¬ w = v := fun z => hw z.symm
          simp [h4, hw, h5, h6]
  have al := opAll_map (fun q : Cell × Int => match fget f q.1 with
  | some v => decide (v = 4 ∨ v = q.2)
  | none => false) o
  have ew : within f o = o.all (fun q : Cell × Int => match fget f q.1 with
  | some v => decide (v = 4 ∨ v = q.2)
  | none => false) := rfl
  rw [← ew] at al
  generalize within f o = wb at *
  generalize (o.map fun q : Cell × Int => PyData.bool (match fget f q.1 with
  | some v => decide (v = 4 ∨ v = q.2)
  | none => false)) = bs at *
  generalize (o.map fun q => ckey q.1) = keys at *
  generalize figD f = fD at *
  generalize figD o = oD at *
  simp [φ_is_within, F_is_within, k, z, lc, al]
theorem e_is_within_figure (f o : FigL) (F : Fig f) (G : Fig o) : φ_is_within_figure [.fro (.dict (figD f)), .fro (.dict (figD o))] = .ok (.fro (.bool (within f o))) [.fro (.dict (figD f)), .fro (.dict (figD o))] := by
  have ck := e_check_two f o F G
  have w := e_is_within f o F G
  generalize figD f = fD at *
  generalize figD o = oD at *
  simp [φ_is_within_figure, F_is_within_figure, ck, w]
theorem lw_turn (f o : FigL) (q : Cell × Int) (found : FigL) (x3 : Option SV) (ef : fget f q.1 = some q.2) (ok : ∀ v, fget o q.1 = some v → q.2 = 4 ∨ q.2 = v) (fr : q.1 ∉ fkeys found) (hl : found.length ≤ 1000000) :
    turnF (nameG 3) B_left_without_0 (ckey q.1) [some (.fro (.dict (figD f))), some (.fro (.dict (figD o))), some (.own none (.dct (figD found))), x3] =
      .nx [some (.fro (.dict (figD f))), some (.fro (.dict (figD o))), some (.own none (.dct (figD (found ++ (match fget o q.1 with
  | none => [q]
  | some v => if q.2 = 4 ∧ v ≠ 4 then [(q.1, (v + 2) % 4)] else []))))), some (.fro (ckey q.1))] := by
  obtain ⟨p, x⟩ := q
  simp only at ef fr ok ⊢
  cases eo : fget o p with
  | none =>
    have hk := fget_none.mp eo
    have po := putO_fig p x hl
    rw [fput_new fr] at po
    simp [turnF, B_left_without_0, hk, ef, po]
  | some v =>
    have hk := fget_key eo
    have po := putO_fig p ((v + 2) % 4) hl
    rw [fput_new fr] at po
    rcases ok v eo with h | h
    · subst h
      by_cases h : v = 4
      · subst h
        simp [turnF, B_left_without_0, hk, ef, eo]
      · have h5 : ¬ 4 = v := fun z => h z.symm
        simp [turnF, B_left_without_0, hk, ef, eo, h, h5, po]
    · subst h
      simp [turnF, B_left_without_0, hk, ef, eo]
theorem e_left (f o : FigL) (F : Fig f) (G : Fig o) (w : within f o = true) : φ_left_without [.fro (.dict (figD f)), .fro (.dict (figD o))] = .ok (.nw (.dct (figD (restL f o)))) [.fro (.dict (figD f)), .fro (.dict (figD o))] := by
  have kf := figD_fst f
  have lf := F.len
  obtain ⟨y3, e2⟩ := rest_loop B_left_without_0 f o F.nd (by omega) (fun q found x3 hq fr hl => lw_turn f o q found x3 (fget_at F.nd hq) (fun v ev => by
    obtain ⟨v', e1, e3⟩ := within_all.mp w _ (fget_mem ev)
    simp only at e1 e3
    rw [fget_at F.nd hq] at e1
    cases e1
    exact e3) fr hl) none
  generalize restL f o = r at *
  generalize figD f = fD at *
  generalize figD o = oD at *
  simp [φ_left_without, F_left_without, kf, e2]
/-- what taken_away tells -/
def takR (f o : FigL) : RV := if within f o = true then (if restL f o = [] then .fro .none else .nw (.dct (figD (restL f o)))) else .fro .none
theorem e_taken (f o : FigL) (F : Fig f) (G : Fig o) : φ_taken_away [.fro (.dict (figD f)), .fro (.dict (figD o))] = .ok (takR f o) [.fro (.dict (figD f)), .fro (.dict (figD o))] := by
  have ck := e_check_two f o F G
  have w := e_is_within f o F G
  unfold takR
  by_cases h : within f o = true
  · have l := e_left f o F G h
    rw [if_pos h]
    rw [h] at w
    cases hr : restL f o with
    | nil =>
      rw [hr, figD_nil] at l
      have z : opLen [.dict []] = some (.fro (.int 0)) := rfl
      generalize figD f = fD at *
      generalize figD o = oD at *
      simp [φ_taken_away, F_taken_away, ck, w, l, z]
    | cons q r =>
      rw [hr] at l
      have z := len_fig (q :: r)
      have hp : 0 < (q :: r).length := by simp only [List.length_cons]; omega
      have ne : ¬ (q :: r = []) := by simp
      rw [if_neg ne]
      generalize q :: r = rr at *
      generalize figD f = fD at *
      generalize figD o = oD at *
      simp [φ_taken_away, F_taken_away, ck, w, l, varOF, z, hp, ne]
  · rw [if_neg h]
    have h' : within f o = false := by simpa using h
    rw [h'] at w
    generalize figD f = fD at *
    generalize figD o = oD at *
    simp [φ_taken_away, F_taken_away, ck, w]
theorem e_halves_in (l : FigL) (nd : (fkeys l).Nodup) (hl : l.length ≤ 100000) : φ_halves_in [.fro (.dict (figD l))] = .ok (.fro (.int (halves l))) [.fro (.dict (figD l))] := e_halves l nd hl
theorem e_halves_of (l : FigL) (F : Fig l) : φ_halves_of [.fro (.dict (figD l))] = .ok (.fro (.int (halves l))) [.fro (.dict (figD l))] := by
  have ck := e_check_figure l F
  have h := e_halves_in l F.nd (by have := F.len; omega)
  generalize figD l = fD at *
  simp [φ_halves_of, F_halves_of, ck, h]
end PD
end

section
set_option maxHeartbeats 1000000
namespace PD
open PySem PySem.Spec PyProof.Rows L2
/-- a figure with bounds -/
structure FigB (n B : Nat) (l : FigL) : Prop where
  nd : (fkeys l).Nodup
  ne : l ≠ []
  val : ∀ q ∈ l, 0 ≤ q.2 ∧ q.2 ≤ 4
  len : l.length ≤ n
  far : ∀ q ∈ l, q.1.1.natAbs ≤ B ∧ q.1.2.natAbs ≤ B
theorem FigB.fig {n B : Nat} {l : FigL} (h : FigB n B l) (hn : n ≤ 10000) (hB : B ≤ 1000000) : Fig l :=
  ⟨h.nd, h.ne, h.val, Nat.le_trans h.len hn, fun q hq => ⟨Nat.le_trans (h.far q hq).1 hB, Nat.le_trans (h.far q hq).2 hB⟩⟩
theorem FigB.mono {n m B C : Nat} {l : FigL} (h : FigB n B l) (hn : n ≤ m) (hB : B ≤ C) : FigB m C l :=
  ⟨h.nd, h.ne, h.val, Nat.le_trans h.len hn, fun q hq => ⟨Nat.le_trans (h.far q hq).1 hB, Nat.le_trans (h.far q hq).2 hB⟩⟩
theorem FigB.put {n B : Nat} {l : FigL} (h : FigB n B l) (p : Cell) (v : Int) (hv : 0 ≤ v ∧ v ≤ 4) (hp : p.1.natAbs ≤ B + 1 ∧ p.2.natAbs ≤ B + 1) : FigB (n + 1) (B + 1) (fput l p v) := by
  refine ⟨fput_nodup h.nd, fput_ne l p v, fun q hq => ?_, Nat.le_trans (fput_length l p v) (by have := h.len; omega), fun q hq => ?_⟩
  · rcases fput_mem hq with rfl | hq
    · exact hv
    · exact h.val q hq
  · rcases fput_mem hq with rfl | hq
    · exact hp
    · have := h.far q hq
      omega
/-! ### sides, the cell beyond -/
def sidesL : Int → List Int
  | 0 => [0, 3]
  | 1 => [0, 1]
  | 2 => [1, 2]
  | 3 => [2, 3]
  | _ => [0, 1, 2, 3]
theorem e_sides0 : φ__law_sides [.fro (.int 0)] = .ok (.fro (.tuple [.int 0, .int 3])) [.fro (.int 0)] := by simp [φ__law_sides, F__law_sides]
theorem atI_4 (xs : List PyData) : atI xs 4 = xs[4]? := atI_of xs 4
theorem e_sides1 : φ__law_sides [.fro (.int 1)] = .ok (.fro (.tuple [.int 0, .int 1])) [.fro (.int 1)] := by simp [φ__law_sides, F__law_sides]
theorem e_sides2 : φ__law_sides [.fro (.int 2)] = .ok (.fro (.tuple [.int 1, .int 2])) [.fro (.int 2)] := by simp [φ__law_sides, F__law_sides]
theorem e_sides3 : φ__law_sides [.fro (.int 3)] = .ok (.fro (.tuple [.int 2, .int 3])) [.fro (.int 3)] := by simp [φ__law_sides, F__law_sides]
theorem e_sides4 : φ__law_sides [.fro (.int 4)] = .ok (.fro (.tuple [.int 0, .int 1, .int 2, .int 3])) [.fro (.int 4)] := by simp [φ__law_sides, F__law_sides, atI_4]
theorem e_sides (w : Int) (h : 0 ≤ w ∧ w ≤ 4) : φ__law_sides [.fro (.int w)] = .ok (.fro (.tuple ((sidesL w).map .int))) [.fro (.int w)] := by
  rcases five h with rfl | rfl | rfl | rfl | rfl
  · exact e_sides0
  · exact e_sides1
  · exact e_sides2
  · exact e_sides3
  · exact e_sides4
theorem sidesL_ok (w : Int) : 1 ≤ (sidesL w).length ∧ (sidesL w).length ≤ 4 ∧ ∀ x ∈ sidesL w, 0 ≤ x ∧ x ≤ 3 := by
  unfold sidesL
  split <;> simp
theorem e_near (r c s : Int) (h : 0 ≤ s ∧ s ≤ 3) : ∃ p : Cell, p.1.natAbs ≤ r.natAbs + 1 ∧ p.2.natAbs ≤ c.natAbs + 1 ∧ φ__law_near [.fro (.int r), .fro (.int c), .fro (.int s)] = .ok (.fro (ckey p)) [.fro (.int r), .fro (.int c), .fro (.int s)] := by
  have h4 : s = 0 ∨ s = 1 ∨ s = 2 ∨ s = 3 := by omega
  rcases h4 with rfl | rfl | rfl | rfl
  · exact ⟨(r + -1, c + 0), by omega, by omega, by simp [φ__law_near, F__law_near, ckey]⟩
  · exact ⟨(r + 0, c + 1), by omega, by omega, by simp [φ__law_near, F__law_near, ckey]⟩
  · exact ⟨(r + 1, c + 0), by omega, by omega, by simp [φ__law_near, F__law_near, ckey]⟩
  · exact ⟨(r + 0, c + -1), by omega, by omega, by simp [φ__law_near, F__law_near, ckey]⟩
theorem corners_four (s : Int) (h : 0 ≤ s ∧ s ≤ 3) (Γ : Env) (x0 x1 x2 x3 x4 x5 x7 x8 : Option SV) (e : Γ = [x0, x1, x2, x3, x4, x5, some (.fro (.int s)), x7, x8, none]) : ∃ cs : List Int, 1 ≤ cs.length ∧ cs.length ≤ 4 ∧ (∀ c ∈ cs, 0 ≤ c ∧ c ≤ 3) ∧
    lcF [9] (range1I (cF (.int 4))) (nameG 9) (boolF (opF opIn [.e (opF opMod [.e (opF opInt [.e (opF opAdd [.s 6, .e (cF (.int 2))])]), .e (cF (.int 4))]), .e (callF φ__law_sides [.e (varF 9)])])) (varF 9) Γ = .ok (.nw (.lst (cs.map .int))) Γ := by
  subst e
  have z : small62 4 = true := small62_of (by decide) (by decide)
  have r4 : rangeD 0 4 = [.int 0, .int 1, .int 2, .int 3] := rfl
  have z4 : small24 4 = true := by decide
  have h4 : s = 0 ∨ s = 1 ∨ s = 2 ∨ s = 3 := by omega
  rcases h4 with rfl | rfl | rfl | rfl
  · exact ⟨[2, 3], by simp, by simp, by simp, by simp [z, r4, z4, lcL, e_sides0, e_sides1, e_sides2, e_sides3]⟩
  · exact ⟨[0, 3], by simp, by simp, by simp, by simp [z, r4, z4, lcL, e_sides0, e_sides1, e_sides2, e_sides3]⟩
  · exact ⟨[0, 1], by simp, by simp, by simp, by simp [z, r4, z4, lcL, e_sides0, e_sides1, e_sides2, e_sides3]⟩
  · exact ⟨[1, 2], by simp, by simp, by simp, by simp [z, r4, z4, lcL, e_sides0, e_sides1, e_sides2, e_sides3]⟩
@[simp] theorem callRF_eq (φ : Fn) (rs : List Nat) (as : List ArgF) (Γ : Env) : callRF φ rs as Γ = (evalArgs as Γ).bind fun avs Γ1 => if (slotsOf avs).Nodup then (ofOpt (mkSV 0 avs (lendE rs Γ1)) Γ1).bind fun svs Γ1 => match φ svs with
    | .ok r outs => if flatR r && flatOuts avs outs then (ofOpt (backs avs outs (lendE rs Γ1)) Γ1).bind fun Γ2 _ => .ok r (backR rs Γ1 Γ2) else .bad
    | .bad => .bad
  else .bad := rfl
theorem halves_lent (l : FigL) (nd : (fkeys l).Nodup) (hl : l.length ≤ 100000) (x0 x1 x2 x4 x5 x6 x7 x8 x9 : Option SV) : callRF φ__law_halves [3] [.s 3] [x0, x1, x2, some (.own none (.dct (figD l))), x4, x5, x6, x7, x8, x9] = .ok (.fro (.int (halves l))) [x0, x1, x2, some (.own none (.dct (figD l))), x4, x5, x6, x7, x8, x9] := by
  have h := e_halves l nd hl
  generalize figD l = fD at *
  have e1 : lendE [3] [x0, x1, x2, some (.own none (.dct fD)), x4, x5, x6, x7, x8, x9] = [x0, x1, x2, some (.fro (.dict fD)), x4, x5, x6, x7, x8, x9] := rfl
  have e2 : backR [3] [x0, x1, x2, some (.own none (.dct fD)), x4, x5, x6, x7, x8, x9] [x0, x1, x2, some (.fro (.dict fD)), x4, x5, x6, x7, x8, x9] = [x0, x1, x2, some (.own none (.dct fD)), x4, x5, x6, x7, x8, x9] := rfl
  simp [e1, e2, h, flatR, noMut, flatOuts]
@[simp] theorem opList_tup (xs : List PyData) : opList [.tuple xs] = some (.nw (.lst xs)) := rfl
@[simp] theorem opList_lst (xs : List PyData) : opList [.list xs] = some (.nw (.lst xs)) := rfl
@[simp] theorem opList_dict (xs : List (PyData × PyData)) : opList [.dict xs] = some (.nw (.lst (xs.map (·.1)))) := rfl
def GR : SF := (seqF (setF 6 (callF φ__law_pick [.s 0, .e (opF opList [.e (callF φ__law_sides [.e (opF opIx [.s 3, .s 5])])])])) (seqF (setF 7 (callF φ__law_near [.e (opF opIx [.s 5, .e (cF (.int 0))]), .e (opF opIx [.s 5, .e (cF (.int 1))]), .e (varF 6)])) (seqF (setF 8 (callF φ__law_pick [.s 0, .e (lcF [9] (range1I (cF (.int 4))) (nameG 9) (boolF (opF opIn [.e (opF opMod [.e (opF opInt [.e (opF opAdd [.s 6, .e (cF (.int 2))])]), .e (cF (.int 4))]), .e (callF φ__law_sides [.e (varF 9)])])) (varF 9))])) (ifS (boolF (opF opNotIn [.s 7, .s 3])) (putF 3 (varF 7) (ifF (andF (boolF (opF opEqY [.e (callF φ__law_random [.s 0, .e (cF (.int 3))]), .e (cF (.int 0))])) (boolF (opF opLe [.e (opF opAdd [.e (callRF φ__law_halves [3] [.s 3]), .e (cF (.int 2))]), .s 1]))) (cF (.int 4)) (varF 8))) (nxF)))))
theorem grown_body : B__law_grown_0 = ifS (boolF (opF opLt [.e (callRF φ__law_halves [3] [.s 3]), .s 1])) (seqF (setF 5 (callF φ__law_pick [.s 0, .e (opF opSorted [.e (opF opList [.s 3])])])) (ifS (andF (boolF (opF opNeY [.e (opF opIx [.s 3, .s 5]), .e (cF (.int 4))])) (boolF (opF opEqY [.e (callF φ__law_random [.s 0, .e (cF (.int 3))]), .e (cF (.int 0))]))) (putF 3 (varF 5) (cF (.int 4))) (GR))) (nxF) := rfl
theorem grow_rest (N : Int) (hN : N < 800000000) (ds : List PyData) (g : GenAt N ds) (n B : Nat) (l : FigL) (FB : FigB n B l) (hn : n ≤ 50000) (c : Cell) (x : Int) (ec : fget l c = some x) (S : Int) (W x4 y6 y7 y8 : Option SV) :
    ∃ ds' l' x6 x7 x8, FigB (n + 1) (B + 1) l' ∧ GenAt (N + 4) ds' ∧
      GR [some (.own (some 0) (.lst ds)), some (.fro (.int S)), W, some (.own none (.dct (figD l))), x4, some (.fro (ckey c)), y6, y7, y8, none] =
        .nx [some (.own (some 0) (.lst ds')), some (.fro (.int S)), W, some (.own none (.dct (figD l'))), x4, some (.fro (ckey c)), x6, x7, x8, none] := by
  have hx := FB.val _ (fget_mem ec)
  have hc := FB.far _ (fget_mem ec)
  simp only at hx hc
  have hl := FB.len
  obtain ⟨s1, s2, s3⟩ := sidesL_ok x
  obtain ⟨i, hi, ds1, g1, ep⟩ := e_pickB N (by omega) ds g ((sidesL x).map .int) (by rw [List.length_map]; exact s1) (by rw [List.length_map]; omega)
  have es := e_sides x hx
  have hs : ((sidesL x).map PyData.int)[i] = .int ((sidesL x)[i]'(by simpa using hi)) := List.getElem_map ..
  rw [hs] at ep
  have hside := s3 ((sidesL x)[i]'(by simpa using hi)) (List.getElem_mem _)
  generalize (sidesL x)[i]'(by simpa using hi) = side at *
  obtain ⟨p, p1, p2, en⟩ := e_near c.1 c.2 side hside
  have step1 : setF 6 (callF φ__law_pick [.s 0, .e (opF opList [.e (callF φ__law_sides [.e (opF opIx [.s 3, .s 5])])])]) [some (.own (some 0) (.lst ds)), some (.fro (.int S)), W, some (.own none (.dct (figD l))), x4, some (.fro (ckey c)), y6, y7, y8, none] =
      .nx [some (.own (some 0) (.lst ds1)), some (.fro (.int S)), W, some (.own none (.dct (figD l))), x4, some (.fro (ckey c)), some (.fro (.int side)), y7, y8, none] := by
    simp [ec, es, ep]
  have step2 : setF 7 (callF φ__law_near [.e (opF opIx [.s 5, .e (cF (.int 0))]), .e (opF opIx [.s 5, .e (cF (.int 1))]), .e (varF 6)]) [some (.own (some 0) (.lst ds1)), some (.fro (.int S)), W, some (.own none (.dct (figD l))), x4, some (.fro (ckey c)), some (.fro (.int side)), y7, y8, none] =
      .nx [some (.own (some 0) (.lst ds1)), some (.fro (.int S)), W, some (.own none (.dct (figD l))), x4, some (.fro (ckey c)), some (.fro (.int side)), some (.fro (ckey p)), y8, none] := by
    generalize figD l = fD at *
    generalize ckey p = kp at *
    simp [en]
  obtain ⟨cs, c1, c2, c3, ecs⟩ := corners_four side hside [some (.own (some 0) (.lst ds1)), some (.fro (.int S)), W, some (.own none (.dct (figD l))), x4, some (.fro (ckey c)), some (.fro (.int side)), some (.fro (ckey p)), y8, none] _ _ _ _ _ _ _ _ rfl
  obtain ⟨j, hj, ds2, g2, ep2⟩ := e_pickB (N + 1) (by omega) ds1 g1 (cs.map .int) (by rw [List.length_map]; exact c1) (by rw [List.length_map]; omega)
  have hs2 : (cs.map PyData.int)[j] = .int (cs[j]'(by simpa using hj)) := List.getElem_map ..
  rw [hs2] at ep2
  have hwhat := c3 (cs[j]'(by simpa using hj)) (List.getElem_mem _)
  generalize cs[j]'(by simpa using hj) = what at *
  have step3 : setF 8 (callF φ__law_pick [.s 0, .e (lcF [9] (range1I (cF (.int 4))) (nameG 9) (boolF (opF opIn [.e (opF opMod [.e (opF opInt [.e (opF opAdd [.s 6, .e (cF (.int 2))])]), .e (cF (.int 4))]), .e (callF φ__law_sides [.e (varF 9)])])) (varF 9))]) [some (.own (some 0) (.lst ds1)), some (.fro (.int S)), W, some (.own none (.dct (figD l))), x4, some (.fro (ckey c)), some (.fro (.int side)), some (.fro (ckey p)), y8, none] =
      .nx [some (.own (some 0) (.lst ds2)), some (.fro (.int S)), W, some (.own none (.dct (figD l))), x4, some (.fro (ckey c)), some (.fro (.int side)), some (.fro (ckey p)), some (.fro (.int what)), none] := by
    generalize figD l = fD at *
    generalize ckey p = kp at *
    generalize ckey c = kc at *
    generalize lcF [9] (range1I (cF (.int 4))) (nameG 9) (boolF (opF opIn [.e (opF opMod [.e (opF opInt [.e (opF opAdd [.s 6, .e (cF (.int 2))])]), .e (cF (.int 4))]), .e (callF φ__law_sides [.e (varF 9)])])) (varF 9) = LC at *
    simp [ecs, ep2]
  have pp : p.1.natAbs ≤ B + 1 ∧ p.2.natAbs ≤ B + 1 := by omega
  have eG : GR = seqF _ _ := rfl
  by_cases hp : p ∈ fkeys l
  · refine ⟨ds2, l, some (.fro (.int side)), some (.fro (ckey p)), some (.fro (.int what)), FB.mono (by omega) (by omega), GenAt.mono (by omega) g2, ?_⟩
    rw [eG]
    simp only [seqF_eq, step1, step2, step3, andThen_nx]
    simp [hp]
  · obtain ⟨r, ds3, r0, r1, g3, er⟩ := e_random (N + 1 + 1) (by omega) ds2 g2 3 (by decide) (by decide)
    have hh := halves_lent l FB.nd (by omega) (some (.own (some 0) (.lst ds3))) (some (.fro (.int S))) W x4 (some (.fro (ckey c))) (some (.fro (.int side))) (some (.fro (ckey p))) (some (.fro (.int what))) none
    have q4 := putO_fig (l := l) p 4 (by omega)
    have qw := putO_fig (l := l) p what (by omega)
    have v4 := FB.put p 4 (by decide) pp
    have vw := FB.put p what (by omega) pp
    by_cases hr : r = 0
    · by_cases hS : halves l + 2 ≤ S
      · refine ⟨ds3, fput l p 4, some (.fro (.int side)), some (.fro (ckey p)), some (.fro (.int what)), v4, GenAt.mono (by omega) g3, ?_⟩
        rw [eG]
        simp only [seqF_eq, step1, step2, step3, andThen_nx]
        generalize fput l p 4 = l4 at *
        generalize callRF φ__law_halves [3] [.s 3] = CR at *
        simp [hp, er, hr, hh, hS, q4]
      · refine ⟨ds3, fput l p what, some (.fro (.int side)), some (.fro (ckey p)), some (.fro (.int what)), vw, GenAt.mono (by omega) g3, ?_⟩
        rw [eG]
        simp only [seqF_eq, step1, step2, step3, andThen_nx]
        generalize fput l p what = l4 at *
        generalize callRF φ__law_halves [3] [.s 3] = CR at *
        simp [hp, er, hr, hh, hS, qw]
    · refine ⟨ds3, fput l p what, some (.fro (.int side)), some (.fro (ckey p)), some (.fro (.int what)), vw, GenAt.mono (by omega) g3, ?_⟩
      rw [eG]
      simp only [seqF_eq, step1, step2, step3, andThen_nx]
      generalize fput l p what = l4 at *
      generalize callRF φ__law_halves [3] [.s 3] = CR at *
      simp [hp, er, hr, qw]
end PD
end

section
set_option maxHeartbeats 1000000
namespace PD
open PySem PySem.Spec PyProof.Rows L2
theorem figD_keys (l : FigL) : (figD l).map (·.1) = (fkeys l).map ckey := by
  rw [figD_fst]
  unfold fkeys
  rw [List.map_map]
  rfl
theorem grow_turn (N : Int) (hN : N < 750000000) (ds : List PyData) (g : GenAt N ds) (n B : Nat) (l : FigL) (FB : FigB n B l) (hn : n ≤ 50000) (S : Int) (W : Option SV) (d : PyData) (x4 x5 x6 x7 x8 : Option SV) :
    ∃ ds' l' y5 y6 y7 y8, FigB (n + 1) (B + 1) l' ∧ GenAt (N + 6) ds' ∧
      turnF (nameG 4) B__law_grown_0 d [some (.own (some 0) (.lst ds)), some (.fro (.int S)), W, some (.own none (.dct (figD l))), x4, x5, x6, x7, x8, none] =
        .nx [some (.own (some 0) (.lst ds')), some (.fro (.int S)), W, some (.own none (.dct (figD l'))), some (.fro d), y5, y6, y7, y8, none] := by
  have hl := FB.len
  have hh := halves_lent l FB.nd (by omega) (some (.own (some 0) (.lst ds))) (some (.fro (.int S))) W (some (.fro d)) x5 x6 x7 x8 none
  have t0 : ∀ Γ, turnF (nameG 4) B__law_grown_0 d Γ = B__law_grown_0 (Γ.set 4 (some (.fro d))) := fun Γ => rfl
  rw [t0]
  show ∃ ds' l' y5 y6 y7 y8, _ ∧ _ ∧ B__law_grown_0 [some (.own (some 0) (.lst ds)), some (.fro (.int S)), W, some (.own none (.dct (figD l))), some (.fro d), x5, x6, x7, x8, none] = _
  rw [grown_body]
  by_cases hS : halves l < S
  · have so := sorted_cells (fkeys l) (by rw [fkeys_length]; omega)
    have pm := sortBy_perm ckey (fkeys l)
    have kk := figD_keys l
    have ln : (sortBy ckey (fkeys l)).length = l.length := by rw [pm.length_eq, fkeys_length]
    have l1 : 1 ≤ l.length := by
      have := FB.ne
      cases l with
      | nil => exact absurd rfl this
      | cons q l => simp
    generalize hsl : sortBy ckey (fkeys l) = sl at *
    obtain ⟨i, hi, ds1, g1, ep⟩ := e_pickB N (by omega) ds g (sl.map ckey) (by rw [List.length_map]; omega) (by rw [List.length_map]; omega)
    have hi' : i < sl.length := by simpa using hi
    have hs : (sl.map ckey)[i] = ckey (sl[i]'hi') := List.getElem_map ..
    rw [hs] at ep
    have hc : sl[i]'hi' ∈ fkeys l := pm.mem_iff.mp (List.getElem_mem _)
    generalize sl[i]'hi' = c at *
    have sm : (fget l c).isSome = true := by rw [fget_isSome]; exact decide_eq_true hc
    obtain ⟨x, ec⟩ := Option.isSome_iff_exists.mp sm
    have step : setF 5 (callF φ__law_pick [.s 0, .e (opF opSorted [.e (opF opList [.s 3])])]) [some (.own (some 0) (.lst ds)), some (.fro (.int S)), W, some (.own none (.dct (figD l))), some (.fro d), x5, x6, x7, x8, none] =
        .nx [some (.own (some 0) (.lst ds1)), some (.fro (.int S)), W, some (.own none (.dct (figD l))), some (.fro d), some (.fro (ckey c)), x6, x7, x8, none] := by
      generalize figD l = fD at *
      generalize ckey c = kc at *
      simp [kk, so, ep]
    by_cases h4 : x = 4
    · obtain ⟨ds2, l2, y6, y7, y8, fb, g2, e⟩ := grow_rest (N + 1) (by omega) ds1 g1 n B l FB hn c x ec S W (some (.fro d)) x6 x7 x8
      refine ⟨ds2, l2, some (.fro (ckey c)), y6, y7, y8, fb, GenAt.mono (by omega) g2, ?_⟩
      generalize GR = gr at *
      generalize callRF φ__law_halves [3] [.s 3] = CR at *
      simp only [ifS_eq, boolF_eq, opF_eq, evalArgs_cons, evalArg_e, hh, Res.bind_ok, toD_fro, evalArg_s, slotD_succ, slotD_zero, ofOpt_some, evalArgs_nil, getAll_cons, get_d, get_s, Option.map_some, svD_fro, Option.bind_some, getAll_nil, opLt_int, hS, decide_true, asB_bool, sof_ok, if_true, seqF_eq, step, andThen_nx]
      simp [ec, h4, e]
    · obtain ⟨r, ds2, r0, r1, g2, er⟩ := e_random (N + 1) (by omega) ds1 g1 3 (by decide) (by decide)
      by_cases hr : r = 0
      · have q4 := putO_fig (l := l) c 4 (by omega)
        refine ⟨ds2, fput l c 4, some (.fro (ckey c)), x6, x7, x8, FB.put c 4 (by decide) (by have := FB.far _ (fget_mem ec); simp only at this; omega), GenAt.mono (by omega) g2, ?_⟩
        generalize fput l c 4 = l4 at *
        generalize GR = gr at *
        generalize callRF φ__law_halves [3] [.s 3] = CR at *
        simp only [ifS_eq, boolF_eq, opF_eq, evalArgs_cons, evalArg_e, hh, Res.bind_ok, toD_fro, evalArg_s, slotD_succ, slotD_zero, ofOpt_some, evalArgs_nil, getAll_cons, get_d, get_s, Option.map_some, svD_fro, Option.bind_some, getAll_nil, opLt_int, hS, decide_true, asB_bool, sof_ok, if_true, seqF_eq, step, andThen_nx]
        simp [ec, h4, er, hr, q4]
      · obtain ⟨ds3, l2, y6, y7, y8, fb, g3, e⟩ := grow_rest (N + 1 + 1) (by omega) ds2 g2 n B l FB hn c x ec S W (some (.fro d)) x6 x7 x8
        refine ⟨ds3, l2, some (.fro (ckey c)), y6, y7, y8, fb, GenAt.mono (by omega) g3, ?_⟩
        generalize GR = gr at *
        generalize callRF φ__law_halves [3] [.s 3] = CR at *
        simp only [ifS_eq, boolF_eq, opF_eq, evalArgs_cons, evalArg_e, hh, Res.bind_ok, toD_fro, evalArg_s, slotD_succ, slotD_zero, ofOpt_some, evalArgs_nil, getAll_cons, get_d, get_s, Option.map_some, svD_fro, Option.bind_some, getAll_nil, opLt_int, hS, decide_true, asB_bool, sof_ok, if_true, seqF_eq, step, andThen_nx]
        simp [ec, h4, er, hr, e]
  · refine ⟨ds, l, x5, x6, x7, x8, FB.mono (by omega) (by omega), GenAt.mono (by omega) g, ?_⟩
    generalize GR = gr at *
    generalize callRF φ__law_halves [3] [.s 3] = CR at *
    simp only [ifS_eq, boolF_eq, opF_eq, evalArgs_cons, evalArg_e, hh, Res.bind_ok, toD_fro, evalArg_s, slotD_succ, slotD_zero, ofOpt_some, evalArgs_nil, getAll_cons, get_d, get_s, Option.map_some, svD_fro, Option.bind_some, getAll_nil, opLt_int, hS, decide_false, asB_bool, sof_ok, Bool.false_eq_true, if_false, nxF_eq]
@[simp] theorem ddF_eq (tup : Bool) (ps : EPs) (Γ : Env) : ddF tup ps Γ = (evalPs ps Γ).bind fun ds Γ' => (ofOpt (putPs (dNew tup) ds) Γ').bind fun c Γ' => .ok (.nw c) Γ' := rfl
@[simp] theorem evalPs_nil (Γ : Env) : evalPs [] Γ = .ok [] Γ := rfl
@[simp] theorem evalPs_cons (k v : EF) (r : EPs) (Γ : Env) : evalPs ((k, v) :: r) Γ = (k Γ).bind fun rk Γ1 => (v Γ1).bind fun rv Γ2 => (evalPs r Γ2).bind fun ds Γ3 => .ok ((rk.toD, rv.toD) :: ds) Γ3 := rfl
theorem putPs_one (p : Cell) (v : Int) : putPs (.dct []) [(.tuple [.int p.1, .int p.2], .int v)] = some (.dct (figD [(p, v)])) := rfl
theorem e_grown (N : Int) (hN : N < 700000000) (ds : List PyData) (g : GenAt N ds) (S W : Int) (hS : 1 ≤ S ∧ S ≤ 40) (hW : 1 ≤ W ∧ W ≤ 3) : ∃ ds' l, FigB 1601 1603 l ∧ GenAt (N + 10000) ds' ∧
    φ__law_grown [.own (some 0) (.lst ds), .fro (.int S), .fro (.int W)] = .ok (.nw (.dct (figD l))) [.own (some 0) (.lst ds'), .fro (.int S), .fro (.int W)] := by
  obtain ⟨r1, ds1, a1, b1, g1, er1⟩ := e_random N (by omega) ds g W (by omega) (by omega)
  obtain ⟨r2, ds2, a2, b2, g2, er2⟩ := e_random (N + 1) (by omega) ds1 g1 W (by omega) (by omega)
  obtain ⟨r3, ds3, a3, b3, g3, er3⟩ := e_random (N + 1 + 1) (by omega) ds2 g2 4 (by omega) (by omega)
  have first : FigB 1 3 [((r1, r2), r3)] := ⟨by simp, by simp, by simp; omega, by simp, by simp; omega⟩
  obtain ⟨m, rfl⟩ : ∃ m : Nat, S = m := ⟨S.toNat, by omega⟩
  have z62 : small62 (40 * (m : Int)) = true := small62_of (by omega) (by omega)
  have tn : (40 * (m : Int)).toNat = 40 * m := by omega
  have mk : mulOk 40 (m : Int) = true := mulOk_l _ _ (by decide)
  obtain ⟨Γ', e, ds', l, x4, x5, x6, x7, x8, FB, g', rfl⟩ := loop_range (g := nameG 4) (body := B__law_grown_0) (lo := 0) (n := 40 * m)
    (fun i Γ => ∃ ds' l x4 x5 x6 x7 x8, FigB (1 + i) (3 + i) l ∧ GenAt (N + 3 + 6 * (i : Nat)) ds' ∧ Γ = [some (.own (some 0) (.lst ds')), some (.fro (.int (m : Nat))), some (.fro (.int W)), some (.own none (.dct (figD l))), x4, x5, x6, x7, x8, none])
    (Γ0 := [some (.own (some 0) (.lst ds3)), some (.fro (.int (m : Nat))), some (.fro (.int W)), some (.own none (.dct (figD [((r1, r2), r3)]))), none, none, none, none, none, none]) ⟨ds3, _, none, none, none, none, none, first, GenAt.mono (by omega) g3, rfl⟩ fun i Γ hi h => by
      obtain ⟨ds', l, x4, x5, x6, x7, x8, FB, g', rfl⟩ := h
      obtain ⟨ds2, l2, y5, y6, y7, y8, FB2, g2, e⟩ := grow_turn (N + 3 + 6 * (i : Nat)) (by omega) ds' g' (1 + i) (3 + i) l FB (by omega) (m : Nat) (some (.fro (.int W))) (.int (0 + (i : Nat))) x4 x5 x6 x7 x8
      exact ⟨_, e, ds2, l2, _, y5, y6, y7, y8, FB2, GenAt.mono (by omega) g2, rfl⟩
  refine ⟨ds', l, FB.mono (by omega) (by omega), GenAt.mono (by omega) g', ?_⟩
  have p1 := putPs_one (r1, r2) r3
  simp only at p1
  generalize figD [((r1, r2), r3)] = f0 at *
  generalize figD l = fD at *
  simp [φ__law_grown, F__law_grown, er1, er2, er3, p1, opMul_int, mk, z62, tn, e]
/-! ### moved -/
def movL (l : FigL) (dr dc : Int) : FigL := l.map fun q => ((q.1.1 + dr, q.1.2 + dc), q.2)
theorem movL_nodup {l : FigL} (nd : (fkeys l).Nodup) (dr dc : Int) : (fkeys (movL l dr dc)).Nodup := by
  have e : fkeys (movL l dr dc) = (fkeys l).map fun p => (p.1 + dr, p.2 + dc) := by
    unfold fkeys movL
    rw [List.map_map, List.map_map]
    rfl
  rw [e]
  refine List.Pairwise.map _ (fun a b h z => h ?_) nd
  injection z with z1 z2
  exact Prod.ext (by omega) (by omega)
theorem FigB.moved {n B : Nat} {l : FigL} (h : FigB n B l) (D : Nat) (dr dc : Int) (h1 : dr.natAbs ≤ D) (h2 : dc.natAbs ≤ D) : FigB n (B + D) (movL l dr dc) := by
  refine ⟨movL_nodup h.nd dr dc, fun z => h.ne (List.map_eq_nil_iff.mp z), fun q hq => ?_, by unfold movL; rw [List.length_map]; exact h.len, fun q hq => ?_⟩
  · obtain ⟨p, hp, rfl⟩ := List.mem_map.mp hq
    exact h.val p hp
  · obtain ⟨p, hp, rfl⟩ := List.mem_map.mp hq
    have := h.far p hp
    simp only
    omega
theorem e_moved (l : FigL) (nd : (fkeys l).Nodup) (hl : l.length ≤ 100000) (dr dc : Int) : φ__law_moved [.fro (.dict (figD l)), .fro (.int dr), .fro (.int dc)] = .ok (.nw (.dct (figD (movL l dr dc)))) [.fro (.dict (figD l)), .fro (.int dr), .fro (.int dc)] := by
  have k := figD_fst l
  have z : small24 (l.map fun q => ckey q.1).length = true := small24_of (by rw [List.length_map]; omega)
  have lc := lcL_each (vs := [3, 4]) (g := tupG 2 (consG (nameG 3) (consG (nameG 4) (nilG)))) (elt := tupF [tupF [opF opAdd [.s 3, .s 1], opF opAdd [.s 4, .s 2]], opF opIx [.s 0, .e (tupF [varF 3, varF 4])]])
    (Γ := [some (.fro (.dict (figD l))), some (.fro (.int dr)), some (.fro (.int dc)), none, none]) (fun q : Cell × Int => ckey q.1) (fun q => pairD ((q.1.1 + dr, q.1.2 + dc), q.2)) (all := l) fun q hq => by
    obtain ⟨⟨r, c⟩, v⟩ := q
    have ix := fget_at nd hq
    simp only at ix ⊢
    refine ⟨[some (.fro (.dict (figD l))), some (.fro (.int dr)), some (.fro (.int dc)), some (.fro (.int r)), some (.fro (.int c))], .fro (pairD ((r + dr, c + dc), v)), [some (.fro (.dict (figD l))), some (.fro (.int dr)), some (.fro (.int dc)), some (.fro (.int r)), some (.fro (.int c))], rfl, ?_, rfl, rfl⟩
    simp [ix, pairD, ckey]
  have e : (l.map fun q => pairD ((q.1.1 + dr, q.1.2 + dc), q.2)) = (movL l dr dc).map pairD := by
    unfold movL
    rw [List.map_map]
    rfl
  rw [e] at lc
  have dd := dict_fig_nd (movL l dr dc) (by unfold movL; rw [List.length_map]; omega) (movL_nodup nd dr dc)
  generalize (movL l dr dc).map pairD = ps at *
  generalize (l.map fun q => ckey q.1) = keys at *
  generalize figD (movL l dr dc) = mD at *
  generalize figD l = fD at *
  simp [φ__law_moved, F__law_moved, k, z, lc, dd]
end PD
end

section
set_option maxHeartbeats 1000000
namespace PD
open PySem PySem.Spec PyProof.Rows L2
/-! ### preimages -/
def uncell : PyData → Cell
  | .tuple [.int a, .int b] => (a, b)
  | _ => (0, 0)
@[simp] theorem uncell_ckey (p : Cell) : uncell (ckey p) = p := rfl
def unpair : PyData → Cell × Int
  | .tuple [k, .int v] => (uncell k, v)
  | _ => ((0, 0), 0)
@[simp] theorem unpair_pair (q : Cell × Int) : unpair (pairD q) = q := rfl
theorem perm_pre {α : Type} (f : α → PyData) (u : PyData → α) (hu : ∀ a, u (f a) = a) {ys : List PyData} {l : List α} (h : ys.Perm (l.map f)) : ∃ l' : List α, l'.Perm l ∧ ys = l'.map f := by
  refine ⟨ys.map u, ?_, ?_⟩
  · have := h.map u
    rw [List.map_map] at this
    have e : u ∘ f = id := funext hu
    rw [e, List.map_id] at this
    exact this
  · rw [List.map_map]
    symm
    have : ∀ y ∈ ys, (f ∘ u) y = y := fun y hy => by
      obtain ⟨a, _, rfl⟩ := List.mem_map.mp (h.mem_iff.mp hy)
      show f (u (f a)) = f a
      rw [hu]
    rw [List.map_congr_left this]
    exact List.map_id _
/-! ### shuffled -/
theorem FigB.perm {n B : Nat} {l l' : FigL} (h : FigB n B l) (p : l'.Perm l) : FigB n B l' := by
  have pk : (fkeys l').Perm (fkeys l) := List.Perm.map (fun q : Cell × Int => q.1) p
  refine ⟨pk.nodup_iff.mpr h.nd, fun z => h.ne ?_, fun q hq => h.val q (p.mem_iff.mp hq), by rw [p.length_eq]; exact h.len, fun q hq => h.far q (p.mem_iff.mp hq)⟩
  subst z
  exact List.Perm.nil_eq p |>.symm
theorem e_shuffled (N : Int) (hN : N < 600000000) (ds : List PyData) (g : GenAt N ds) (n B : Nat) (l : FigL) (FB : FigB n B l) (hn : n ≤ 50000) : ∃ ds' l', l'.Perm l ∧ GenAt (N + (n : Nat)) ds' ∧
    φ__law_shuffled [.own (some 0) (.lst ds), .fro (.dict (figD l))] = .ok (.nw (.dct (figD l'))) [.own (some 0) (.lst ds'), .fro (.dict (figD l))] := by
  have hl := FB.len
  have so := sorted_pairs l (by omega)
  have pm := sortBy_perm pairD l
  generalize sortBy pairD l = sl at *
  obtain ⟨ys, ds', py, g', e⟩ := e_drawn N ds g (sl.map pairD) (by rw [List.length_map, pm.length_eq]; omega) (by omega)
  obtain ⟨l', pl, rfl⟩ := perm_pre pairD unpair unpair_pair py
  have nd : (fkeys l').Nodup := (FB.perm (pl.trans pm)).nd
  have dd := dict_fig_nd l' (by rw [(pl.trans pm).length_eq]; omega) nd
  have pd := pairsD_fig l
  refine ⟨ds', l', pl.trans pm, GenAt.mono (by rw [List.length_map, pm.length_eq]; omega) g', ?_⟩
  generalize l'.map pairD = ps at *
  generalize sl.map pairD = ss at *
  generalize l.map pairD = lp at *
  generalize figD l' = fD' at *
  generalize figD l = fD at *
  simp [φ__law_shuffled, F__law_shuffled, pd, so, e, dd]
/-! ### a part -/
theorem cut_take (xs : List PyData) (k : Nat) : cutD xs none (some (k : Int)) = xs.take k := by
  unfold cutD
  rw [HT.sIx_none, HT.sIx_nat, List.drop_zero, Nat.sub_zero]
  rw [Nat.min_def]
  split
  · rfl
  · rw [List.take_of_length_le (Nat.le_refl _), List.take_of_length_le (by omega)]
theorem part_turn (N : Int) (hN : N < 800000000) (ds : List PyData) (g : GenAt N ds) (l found : FigL) (p : Cell) (x : Int) (ex : fget l p = some x) (hx : 0 ≤ x ∧ x ≤ 4) (fr : p ∉ fkeys found) (hl : found.length ≤ 1000000) (x3 : Option SV) :
    ∃ ds' v, 0 ≤ v ∧ v ≤ 4 ∧ (x = 4 ∨ x = v) ∧ GenAt (N + 2) ds' ∧ turnF (nameG 3) B__law_part_0 (ckey p) [some (.own (some 0) (.lst ds)), some (.fro (.dict (figD l))), some (.own none (.dct (figD found))), x3] =
      .nx [some (.own (some 0) (.lst ds')), some (.fro (.dict (figD l))), some (.own none (.dct (figD (found ++ [(p, v)])))), some (.fro (ckey p))] := by
  by_cases h4 : x = 4
  · obtain ⟨r, ds1, r0, r1, g1, er⟩ := e_random N (by omega) ds g 2 (by decide) (by decide)
    by_cases hr : r = 0
    · obtain ⟨s, ds2, s0, s1, g2, es⟩ := e_random (N + 1) (by omega) ds1 g1 5 (by decide) (by decide)
      have po := putO_fig p s hl
      rw [fput_new fr] at po
      refine ⟨ds2, s, s0, by omega, .inl h4, GenAt.mono (by omega) g2, ?_⟩
      simp [turnF, B__law_part_0, ex, h4, er, hr, es, po]
    · have po := putO_fig p x hl
      rw [fput_new fr] at po
      rw [h4] at po
      refine ⟨ds1, 4, by decide, by decide, .inl h4, GenAt.mono (by omega) g1, ?_⟩
      simp [turnF, B__law_part_0, ex, h4, er, hr, po]
  · have po := putO_fig p x hl
    rw [fput_new fr] at po
    refine ⟨ds, x, hx.1, hx.2, .inr rfl, GenAt.mono (by omega) g, ?_⟩
    simp [turnF, B__law_part_0, ex, h4, po]
theorem e_part (N : Int) (hN : N < 600000000) (ds : List PyData) (g : GenAt N ds) (n B : Nat) (l : FigL) (FB : FigB n B l) (hn : n ≤ 50000) : ∃ ds' l', FigB n B l' ∧ within l l' = true ∧ GenAt (N + 3 * (n : Nat) + 1) ds' ∧
    φ__law_part [.own (some 0) (.lst ds), .fro (.dict (figD l))] = .ok (.nw (.dct (figD l'))) [.own (some 0) (.lst ds'), .fro (.dict (figD l))] := by
  have hl := FB.len
  have l1 : 1 ≤ l.length := by
    have := FB.ne
    cases l with
    | nil => exact absurd rfl this
    | cons q l => simp
  have so := sorted_cells (fkeys l) (by rw [fkeys_length]; omega)
  have pm := sortBy_perm ckey (fkeys l)
  have kk := figD_keys l
  generalize sortBy ckey (fkeys l) = sl at *
  have ln : sl.length = l.length := by rw [pm.length_eq, fkeys_length]
  obtain ⟨ys, ds1, py, g1, ed⟩ := e_drawn N ds g (sl.map ckey) (by rw [List.length_map]; omega) (by omega)
  obtain ⟨cs, pc, rfl⟩ := perm_pre ckey uncell uncell_ckey py
  have pcl := pc.trans pm
  have lcs : cs.length = l.length := by rw [pcl.length_eq, fkeys_length]
  obtain ⟨r, ds2, r0, r1, g2, er⟩ := e_random (N + ((sl.map ckey).length : Nat)) (by rw [List.length_map]; omega) ds1 g1 (l.length : Nat) (by omega) (by omega)
  obtain ⟨k, rfl⟩ := Int.eq_ofNat_of_zero_le r0
  have sl2 : sliceD (.list (cs.map ckey)) none (some (1 + (k : Int))) = some (.nw (.lst ((cs.take (1 + k)).map ckey))) := by
    show some (RV.nw (.lst (cutD _ _ _))) = _
    have e1 : (1 + (k : Int)) = ((1 + k : Nat) : Int) := by omega
    rw [e1, cut_take, List.map_take]
  have nd2 : (cs.take (1 + k)).Nodup := (pcl.nodup_iff.mpr FB.nd).sublist (List.take_sublist _ _)
  have sub : ∀ p ∈ cs.take (1 + k), p ∈ fkeys l := fun p hp => pcl.mem_iff.mp (List.mem_of_mem_take hp)
  have lt : (cs.take (1 + k)).length ≤ l.length := by rw [List.length_take]; omega
  have l0 : cs.take (1 + k) ≠ [] := fun z => by
    have := congrArg List.length z
    rw [List.length_take] at this
    simp only [List.length_nil] at this
    omega
  generalize cs.take (1 + k) = ts at *
  obtain ⟨Γ', e, ds', found, x3, ef, hv, hw, g', rfl⟩ := loopF_all (g := nameG 3) (body := B__law_part_0) ckey (all := ts)
    (fun done Γ => ∃ ds' found x3, fkeys found = done ∧ (∀ q ∈ found, 0 ≤ q.2 ∧ q.2 ≤ 4) ∧ (∀ q ∈ found, ∃ v, fget l q.1 = some v ∧ (v = 4 ∨ v = q.2)) ∧ GenAt (N + ((sl.map ckey).length : Nat) + 1 + 2 * (done.length : Nat)) ds' ∧ Γ = [some (.own (some 0) (.lst ds')), some (.fro (.dict (figD l))), some (.own none (.dct (figD found))), x3])
    (Γ0 := [some (.own (some 0) (.lst ds2)), some (.fro (.dict (figD l))), some (.own none (.dct [])), none]) ⟨ds2, [], none, rfl, by simp, by simp, by simpa using g2, rfl⟩ fun done p rest Γ e hR => by
      obtain ⟨ds', found, x3, ef, hv, hw, g', rfl⟩ := hR
      have hp : p ∈ ts := by rw [e]; simp
      have sm : (fget l p).isSome = true := by rw [fget_isSome]; exact decide_eq_true (sub p hp)
      obtain ⟨x, ex⟩ := Option.isSome_iff_exists.mp sm
      have fr : p ∉ fkeys found := by
        rw [ef]
        have := nd2
        rw [e, List.nodup_append] at this
        exact fun z => this.2.2 p z p List.mem_cons_self rfl
      have dl : done.length ≤ ts.length := by rw [e]; simp
      have fl : found.length = done.length := by rw [← ef, fkeys_length]
      obtain ⟨ds3, v, v0, v1, vx, g3, t⟩ := part_turn (N + ((sl.map ckey).length : Nat) + 1 + 2 * (done.length : Nat)) (by rw [List.length_map]; omega) ds' g' l found p x ex (FB.val _ (fget_mem ex)) fr (by omega) x3
      refine ⟨_, t, ds3, found ++ [(p, v)], some (.fro (ckey p)), by rw [fkeys_append, ef]; rfl, fun q hq => ?_, fun q hq => ?_, GenAt.mono (by rw [List.length_append]; simp only [List.length_cons, List.length_nil]; omega) g3, rfl⟩
      · rcases List.mem_append.mp hq with hq | hq
        · exact hv q hq
        · have : q = (p, v) := by simpa using hq
          rw [this]
          exact ⟨v0, v1⟩
      · rcases List.mem_append.mp hq with hq | hq
        · exact hw q hq
        · have : q = (p, v) := by simpa using hq
          rw [this]
          exact ⟨x, ex, vx⟩
  have fl : found.length = ts.length := by rw [← ef, fkeys_length]
  have FBf : FigB n B found := by
    refine ⟨by rw [ef]; exact nd2, fun z => l0 ?_, hv, by omega, fun q hq => ?_⟩
    · rw [← ef, z]
      rfl
    · obtain ⟨v, e1, _⟩ := hw q hq
      exact FB.far (q.1, v) (fget_mem e1)
  refine ⟨ds', found, FBf, within_iff.mpr hw, GenAt.mono (by rw [List.length_map]; omega) g', ?_⟩
  have ll := len_fig l
  generalize sl.map ckey = ss at *
  generalize cs.map ckey = cc at *
  generalize ts.map ckey = tt at *
  generalize (fkeys l).map ckey = fk at *
  generalize figD found = foD at *
  generalize figD l = fD at *
  simp [φ__law_part, F__law_part, kk, so, ed, ll, er, partF, sl2, e]
end PD
end

section
set_option maxHeartbeats 1000000
namespace PD
open PySem PySem.Spec PyProof.Rows L2
@[simp] theorem log2_two : Nat.log2 2 < 9000 := by decide
theorem FigB.rest {n B : Nat} {f : FigL} (h : FigB n B f) (o : FigL) (ne : restL f o ≠ []) : FigB n B (restL f o) := by
  refine ⟨rest_nodup h.nd, ne, rest_vals h.nd h.val, Nat.le_trans (rest_length f o) h.len, fun q hq => ?_⟩
  have hk : q.1 ∈ fkeys f := rest_key (List.mem_map_of_mem (f := (·.1)) hq)
  obtain ⟨p, hp, e⟩ := List.mem_map.mp hk
  have := h.far p hp
  rw [e] at this
  exact this
theorem rest_rest_ne {f p : FigL} (nf : (fkeys f).Nodup) (np : (fkeys p).Nodup) (vp : ∀ q ∈ p, 0 ≤ q.2 ∧ q.2 ≤ 4) (ne : p ≠ []) (w : within f p = true) : restL f (restL f p) ≠ [] := by
  cases p with
  | nil => exact absurd rfl ne
  | cons q p =>
    obtain ⟨v, e1, e2⟩ := within_iff.mp w q List.mem_cons_self
    have hv := vp q List.mem_cons_self
    have eq_ := fget_at np (q := q) List.mem_cons_self
    have er : fget (restL f (restL f (q :: p))) q.1 ≠ none := by
      rw [fget_rest _ _ nf, e1]
      show restH (restL f (q :: p)) q.1 v ≠ none
      unfold restH
      rw [fget_rest _ _ nf, e1]
      simp only [Option.bind_some]
      have eh : restH (q :: p) q.1 v = if v = 4 ∧ q.2 ≠ 4 then some ((q.2 + 2) % 4) else none := by
        unfold restH
        rw [eq_]
      rw [eh]
      by_cases h : v = 4 ∧ q.2 ≠ 4
      · rw [if_pos h]
        have hw : (q.2 + 2) % 4 ≠ 4 := by omega
        simp only
        rw [if_pos ⟨h.1, hw⟩]
        simp
      · rw [if_neg h]
        simp
    intro z
    rw [z] at er
    exact er rfl
def flip (v : Int) : Int := if v ≠ 4 then (v + 2) % 4 else 4
def flipL (f : FigL) : FigL := f.map fun q => (q.1, flip q.2)
theorem flip_keys (f : FigL) : fkeys (flipL f) = fkeys f := by
  unfold fkeys flipL
  rw [List.map_map]
  rfl
theorem FigB.flip {n B : Nat} {f : FigL} (h : FigB n B f) : FigB n B (flipL f) := by
  refine ⟨by rw [flip_keys]; exact h.nd, fun z => h.ne (List.map_eq_nil_iff.mp z), fun q hq => ?_, by unfold flipL; rw [List.length_map]; exact h.len, fun q hq => ?_⟩
  · obtain ⟨p, hp, rfl⟩ := List.mem_map.mp hq
    have := h.val p hp
    simp only [PD.flip]
    split <;> omega
  · obtain ⟨p, hp, rfl⟩ := List.mem_map.mp hq
    exact h.far p hp
@[simp] theorem is_none_dict (l : List (PyData × PyData)) : opIs [.dict l, .none] = some (.fro (.bool false)) := rfl
@[simp] theorem is_none_none : opIs [.none, .none] = some (.fro (.bool true)) := rfl
@[simp] theorem isnot_none_dict (l : List (PyData × PyData)) : opIsNot [.dict l, .none] = some (.fro (.bool true)) := rfl
@[simp] theorem isnot_none_none : opIsNot [.none, .none] = some (.fro (.bool false)) := rfl
@[simp] theorem isnot_bool (a b : Bool) : opIsNot [.bool a, .bool b] = some (.fro (.bool (!decide (a = b)))) := rfl
theorem isEmpty_false {l : FigL} (h : l ≠ []) : l.isEmpty = false := by
  cases l with
  | nil => exact absurd rfl h
  | cons q l => rfl
theorem e_two (N : Int) (hN : N < 500000000) (ds : List PyData) (g : GenAt N ds) (S R : Int) (hS : 1 ≤ S ∧ S ≤ 40) (hR : 1 ≤ R ∧ R ≤ 160) : ∃ ds' f o, FigB 1601 4000 f ∧ FigB 1601 4000 o ∧ GenAt (N + 50000) ds' ∧
    φ__law_two [.own (some 0) (.lst ds), .fro (.int S), .fro (.int R)] = .ok (.fro (.tuple [.dict (figD f), .dict (figD o)])) [.own (some 0) (.lst ds'), .fro (.int S), .fro (.int R)] := by
  obtain ⟨ds1, f0, FB0, g1, eg⟩ := e_grown N (by omega) ds g S 3 hS (by decide)
  obtain ⟨r1, ds2, a1, b1, g2, er1⟩ := e_random (N + 10000) (by omega) ds1 g1 R (by omega) (by omega)
  obtain ⟨r2, ds3, a2, b2, g3, er2⟩ := e_random (N + 10000 + 1) (by omega) ds2 g2 R (by omega) (by omega)
  have em := e_moved f0 FB0.nd (by have := FB0.len; omega) (r1 - R / 2) (r2 - R / 2)
  have FB := FB0.moved 160 (r1 - R / 2) (r2 - R / 2) (by omega) (by omega)
  have two9 : (2 : Int).natAbs.log2 < 9000 := by decide
  obtain ⟨ds4, p, FBp, wp, g4, epart⟩ := e_part (N + 10000 + 1 + 1) (by omega) ds3 g3 1601 (1603 + 160) (movL f0 (r1 - R / 2) (r2 - R / 2)) FB (by omega)
  have ek := e_kinds _ p (FB.fig (by decide) (by decide)) (FBp.fig (by decide) (by decide))
  rw [if_pos wp] at ek
  generalize movL f0 (r1 - R / 2) (r2 - R / 2) = f at *
  obtain ⟨way, ds5, a5, b5, g5, ew⟩ := e_random (N + 10000 + 1 + 1 + 3 * (1601 : Nat) + 1) (by omega) ds4 g4 5 (by decide) (by decide)
  have s3 : setF 3 (callF φ__law_moved [.e (callF φ__law_grown [.s 0, .e (varF 1), .e (cF (.int 3))]), .e (opF opSub [.e (callF φ__law_random [.s 0, .e (varF 2)]), .e (opF opFdiv [.s 2, .e (cF (.int 2))])]), .e (opF opSub [.e (callF φ__law_random [.s 0, .e (varF 2)]), .e (opF opFdiv [.s 2, .e (cF (.int 2))])])])
      [some (.own (some 0) (.lst ds)), some (.fro (.int S)), some (.fro (.int R)), none, none, none, none, none] = .nx [some (.own (some 0) (.lst ds3)), some (.fro (.int S)), some (.fro (.int R)), some (.own none (.dct (figD f))), none, none, none, none] := by
    generalize figD f0 = fD0 at *
    generalize figD f = fD at *
    simp [eg, er1, er2, em]
  have s4 : setF 4 (callF φ__law_kinds [.e (varF 3), .e (callF φ__law_part [.s 0, .e (varF 3)])]) [some (.own (some 0) (.lst ds3)), some (.fro (.int S)), some (.fro (.int R)), some (.own none (.dct (figD f))), none, none, none, none] =
      .nx [some (.own (some 0) (.lst ds4)), some (.fro (.int S)), some (.fro (.int R)), some (.fro (.dict (figD f))), some (.own none (.dct (figD (restL f p)))), none, none, none] := by
    generalize figD f = fD at *
    generalize figD p = pD at *
    generalize figD (restL f p) = rD at *
    simp [epart, ek]
  have s5 : setF 5 (callF φ__law_random [.s 0, .e (cF (.int 5))]) [some (.own (some 0) (.lst ds4)), some (.fro (.int S)), some (.fro (.int R)), some (.fro (.dict (figD f))), some (.own none (.dct (figD (restL f p)))), none, none, none] =
      .nx [some (.own (some 0) (.lst ds5)), some (.fro (.int S)), some (.fro (.int R)), some (.fro (.dict (figD f))), some (.own none (.dct (figD (restL f p)))), some (.fro (.int way)), none, none] := by
    simp [ew]
  have ee := eq_empty (restL f p)
  unfold φ__law_two
  rw [runB_ok (by rfl)]
  unfold F__law_two
  simp only [entryΓ_eq, List.map_cons, List.map_nil, List.cons_append, List.nil_append, List.replicate, seqF_eq, s3, s4, s5, andThen_nx]
  by_cases h0 : way = 0 ∨ restL f p = []
  · obtain ⟨ds6, o0, FBo, g6, eg6⟩ := e_grown (N + 10000 + 1 + 1 + 3 * (1601 : Nat) + 1 + 1) (by omega) ds5 g5 6 2 (by decide) (by decide)
    obtain ⟨r3, ds7, a7, b7, g7, er7⟩ := e_random _ (by omega) ds6 g6 R (by omega) (by omega)
    obtain ⟨r4, ds8, a8, b8, g8, er8⟩ := e_random _ (by omega) ds7 g7 R (by omega) (by omega)
    have em2 := e_moved o0 FBo.nd (by have := FBo.len; omega) (r3 - R / 2) (r4 - R / 2)
    have FBm := FBo.moved 160 (r3 - R / 2) (r4 - R / 2) (by omega) (by omega)
    refine ⟨ds8, f, movL o0 (r3 - R / 2) (r4 - R / 2), FB.mono (by omega) (by omega), FBm.mono (by omega) (by omega), GenAt.mono (by omega) g8, ?_⟩
    generalize movL o0 (r3 - R / 2) (r4 - R / 2) = o at *
    generalize figD o0 = oD0 at *
    generalize figD o = oD at *
    generalize figD f = fD at *
    rcases h0 with h0 | h0
    · generalize figD (restL f p) = rD at *
      simp [h0, eg6, er7, er8, em2]
    · by_cases hw : way = 0
      · generalize figD (restL f p) = rD at *
        simp [hw, eg6, er7, er8, em2]
      · rw [h0] at ee ⊢
        simp only [List.isEmpty_nil] at ee
        generalize figD [] = rD at *
        simp [hw, ee, eg6, er7, er8, em2]
  · have hw : way ≠ 0 := fun z => h0 (.inl z)
    have hr : restL f p ≠ [] := fun z => h0 (.inr z)
    have FBr := FB.rest p hr
    rw [isEmpty_false hr] at ee
    by_cases h1 : way = 1
    · obtain ⟨ds6, q, FBq, wq, g6, ep2⟩ := e_part _ (by omega) ds5 g5 1601 (1603 + 160) f FB (by omega)
      refine ⟨ds6, f, q, FB.mono (by omega) (by omega), FBq.mono (by omega) (by omega), GenAt.mono (by omega) g6, ?_⟩
      generalize figD (restL f p) = rD at *
      generalize figD q = qD at *
      generalize figD f = fD at *
      simp [h1, ee, ep2]
    · by_cases h2 : way = 2
      · have w3 := (back_three FB.nd FBp.nd FBp.val wp).2.2
        have ek2 := e_kinds f (restL f p) (FB.fig (by decide) (by decide)) (FBr.fig (by decide) (by decide))
        rw [if_pos w3] at ek2
        have FBk := FB.rest (restL f p) (rest_rest_ne FB.nd FBp.nd FBp.val FBp.ne wp)
        refine ⟨ds5, restL f p, restL f (restL f p), FBr.mono (by omega) (by omega), FBk.mono (by omega) (by omega), GenAt.mono (by omega) g5, ?_⟩
        generalize figD (restL f (restL f p)) = kD at *
        generalize figD (restL f p) = rD at *
        generalize figD f = fD at *
        simp [h2, ee, ek2]
      · by_cases h3 : way = 3
        · obtain ⟨r3, ds7, a7, b7, g7, er7⟩ := e_random _ (by omega) ds5 g5 3 (by decide) (by decide)
          obtain ⟨r4, ds8, a8, b8, g8, er8⟩ := e_random _ (by omega) ds7 g7 3 (by decide) (by decide)
          have em2 := e_moved f FB.nd (by have := FB.len; omega) r3 r4
          have FBm := FB.moved 3 r3 r4 (by omega) (by omega)
          refine ⟨ds8, f, movL f r3 r4, FB.mono (by omega) (by omega), FBm.mono (by omega) (by omega), GenAt.mono (by omega) g8, ?_⟩
          generalize figD (movL f r3 r4) = mD at *
          generalize figD (restL f p) = rD at *
          generalize figD f = fD at *
          simp [h3, ee, er7, er8, em2]
        · have k := figD_fst f
          have z : small24 (f.map fun q => ckey q.1).length = true := small24_of (by rw [List.length_map]; have := FB.len; omega)
          have lc := lcL_each (vs := [7]) (g := nameG 7) (elt := tupF [varF 7, ifF (boolF (opF opNeY [.e (opF opIx [.s 3, .s 7]), .e (cF (.int 4))])) (opF opMod [.e (opF opInt [.e (opF opAdd [.e (opF opIx [.s 3, .s 7]), .e (cF (.int 2))])]), .e (cF (.int 4))]) (cF (.int 4))])
            (Γ := [some (.own (some 0) (.lst ds5)), some (.fro (.int S)), some (.fro (.int R)), some (.fro (.dict (figD f))), some (.own none (.dct (figD (restL f p)))), some (.fro (.int way)), none, none]) (fun q : Cell × Int => ckey q.1) (fun q => pairD (q.1, PD.flip q.2)) (all := f) fun q hq => by
            obtain ⟨c, v⟩ := q
            have ix := fget_at FB.nd hq
            simp only at ix ⊢
            refine ⟨[some (.own (some 0) (.lst ds5)), some (.fro (.int S)), some (.fro (.int R)), some (.fro (.dict (figD f))), some (.own none (.dct (figD (restL f p)))), some (.fro (.int way)), none, some (.fro (ckey c))], .fro (pairD (c, PD.flip v)), [some (.own (some 0) (.lst ds5)), some (.fro (.int S)), some (.fro (.int R)), some (.fro (.dict (figD f))), some (.own none (.dct (figD (restL f p)))), some (.fro (.int way)), none, some (.fro (ckey c))], rfl, ?_, rfl, rfl⟩
            unfold pairD PD.flip
            by_cases h4 : v = 4
            · simp [ix, h4]
            · simp [ix, h4]
          have ef : (f.map fun q => pairD (q.1, PD.flip q.2)) = (flipL f).map pairD := by
            unfold flipL
            rw [List.map_map]
            rfl
          rw [ef] at lc
          have FBl := FB.flip
          have dd := dict_fig_nd (flipL f) (by have := FBl.len; omega) FBl.nd
          refine ⟨ds5, f, flipL f, FB.mono (by omega) (by omega), FBl.mono (by omega) (by omega), GenAt.mono (by omega) g5, ?_⟩
          generalize (flipL f).map pairD = ps at *
          generalize (f.map fun q => ckey q.1) = keys at *
          generalize figD (flipL f) = lD at *
          generalize figD (restL f p) = rD at *
          generalize figD f = fD at *
          simp [hw, h1, h2, h3, ee, k, z, lc, dd]
end PD
end

section
set_option maxHeartbeats 1000000
namespace PD
open PySem PySem.Spec PyProof.Rows L2
def LR0 : SF := unpF (callF φ__law_two [.s 0, .e (varF 1), .e (varF 2)]) (tupG 2 (consG (nameG 3) (consG (nameG 4) (nilG))))
def LR1 : SF := parF 3 4 (callF φ__law_shuffled [.s 0, .e (varF 3)]) (callF φ__law_shuffled [.s 0, .e (varF 4)])
def LR2 : SF := par3F 5 6 7 (opF opReprD [.e (lstF [varF 3, varF 4])]) (callF φ__law_put [.e (varF 3), .e (varF 4)]) (callF φ__law_kinds [.e (varF 3), .e (varF 4)])
def LR3 : SF := setF 8 (callF φ_put_together [.e (varF 3), .e (varF 4)])
def LR4 : SF := ifS (orF (boolF (opF opNeY [.s 8, .s 6])) (orF (boolF (opF opNeY [.e (callKF φ_put_together 2 [1, 0] [.e (varF 4), .e (varF 3)]), .s 6])) (boolF (opF opNeY [.e (callF φ_is_within_figure [.e (varF 3), .e (varF 4)]), .e (opF opIsNot [.s 7, .e (cF .none)])])))) (retF (cF (.bool false))) (nxF)
def LR5 : SF := setF 9 (ifF (andF (boolF (opF opIsNot [.s 7, .e (cF .none)])) (boolF (opF opNeY [.s 7, .e (dctF)]))) (varF 7) (cF .none))
def LR6 : SF := ifS (orF (boolF (opF opNeY [.e (callF φ_taken_away [.e (varF 3), .e (varF 4)]), .s 9])) (orF (boolF (opF opNeY [.e (callKF φ_taken_away 2 [1, 0] [.e (varF 4), .e (varF 3)]), .s 9])) (boolF (opF opNeY [.e (opF opReprD [.e (lstF [varF 3, varF 4])]), .s 5])))) (retF (cF (.bool false))) (nxF)
def LR7 : SF := ifS (andF (boolF (opF opIsNot [.s 6, .e (cF .none)])) (orF (boolF (opF opNeY [.e (callRF φ_halves_of [8] [.s 8]), .e (opF opAdd [.e (callF φ__law_halves [.e (varF 3)]), .e (callF φ__law_halves [.e (varF 4)])])])) (orF (boolF (opF opNeY [.e (callRF φ_taken_away [8] [.s 8, .e (varF 4)]), .s 3])) (boolF (opF opNeY [.e (callRF φ_taken_away [8] [.s 8, .e (varF 3)]), .s 4]))))) (retF (cF (.bool false))) (nxF)
def LR8 : SF := ifS (andF (boolF (opF opIsNot [.s 9, .e (cF .none)])) (orF (boolF (opF opNeY [.e (callF φ_put_together [.e (varF 9), .e (varF 4)]), .s 3])) (boolF (opF opIsNot [.e (callF φ_is_within_figure [.e (varF 3), .e (varF 9)]), .e (cF (.bool true))])))) (retF (cF (.bool false))) (nxF)
def LR9 : SF := ifS (boolF (opF opIsNot [.s 8, .e (cF .none)])) (putF 8 (tupF [opF opPow [.e (cF (.int 10)), .e (cF (.int 6))], cF (.int 0)]) (cF (.int 4))) (nxF)
def LR10 : SF := retF (andVF (opF opEqY [.e (callF φ_put_together [.e (varF 3), .e (varF 4)]), .s 6]) (opF opEqY [.e (opF opReprD [.e (lstF [varF 3, varF 4])]), .s 5]))
theorem LR_eq : F__law_right = seqF LR0 (seqF LR1 (seqF LR2 (seqF LR3 (seqF LR4 (seqF LR5 (seqF LR6 (seqF LR7 (seqF LR8 (seqF LR9 (LR10)))))))))) := rfl
theorem ne_bool_same (a : Bool) : opNeY [.bool a, .bool a] = some (.fro (.bool false)) := by cases a <;> rfl
theorem flat_fig (l : FigL) : noMutV (figD l) = true := by
  induction l with
  | nil => rfl
  | cons q l ih =>
    show (noMut (.int q.2) && noMutV (figD l)) = true
    rw [ih]
    rfl
section
variable (ds : List PyData) (S R : PyData) (fD oD : List (PyData × PyData)) (k : PyData)
theorem st4 (s6 s7 s8 : SV) (s9 : Option SV) (pr : RV) (w : Bool) (hp : φ_put_together [.fro (.dict fD), .fro (.dict oD)] = .ok pr [.fro (.dict fD), .fro (.dict oD)]) (h1 : opNeY [s8.toD, s6.toD] = some (.fro (.bool false))) (h2 : opNeY [pr.toD, s6.toD] = some (.fro (.bool false)))
    (hw : φ_is_within_figure [.fro (.dict fD), .fro (.dict oD)] = .ok (.fro (.bool w)) [.fro (.dict fD), .fro (.dict oD)]) (h7 : opIsNot [s7.toD, .none] = some (.fro (.bool w))) :
    LR4 [some (.own (some 0) (.lst ds)), some (.fro S), some (.fro R), some (.fro (.dict fD)), some (.fro (.dict oD)), some (.fro k), some s6, some s7, some s8, s9] = .nx [some (.own (some 0) (.lst ds)), some (.fro S), some (.fro R), some (.fro (.dict fD)), some (.fro (.dict oD)), some (.fro k), some s6, some s7, some s8, s9] := by
  have hb := ne_bool_same w
  simp [LR4, h1, hp, h2, hw, h7, hb]
theorem st5a (s6 s8 s9 : Option SV) (rD : List (PyData × PyData)) (h : opNeY [.dict rD, .dict []] = some (.fro (.bool true))) :
    LR5 [some (.own (some 0) (.lst ds)), some (.fro S), some (.fro R), some (.fro (.dict fD)), some (.fro (.dict oD)), some (.fro k), s6, some (.own none (.dct rD)), s8, s9] = .nx [some (.own (some 0) (.lst ds)), some (.fro S), some (.fro R), some (.fro (.dict fD)), some (.fro (.dict oD)), some (.fro k), s6, some (.fro (.dict rD)), s8, some (.fro (.dict rD))] := by
  simp [LR5, h]
theorem st5b (s6 s8 s9 : Option SV) (rD : List (PyData × PyData)) (h : opNeY [.dict rD, .dict []] = some (.fro (.bool false))) :
    LR5 [some (.own (some 0) (.lst ds)), some (.fro S), some (.fro R), some (.fro (.dict fD)), some (.fro (.dict oD)), some (.fro k), s6, some (.own none (.dct rD)), s8, s9] = .nx [some (.own (some 0) (.lst ds)), some (.fro S), some (.fro R), some (.fro (.dict fD)), some (.fro (.dict oD)), some (.fro k), s6, some (.own none (.dct rD)), s8, some (.fro .none)] := by
  simp [LR5, h]
theorem st5c (s6 s8 s9 : Option SV) :
    LR5 [some (.own (some 0) (.lst ds)), some (.fro S), some (.fro R), some (.fro (.dict fD)), some (.fro (.dict oD)), some (.fro k), s6, some (.fro .none), s8, s9] = .nx [some (.own (some 0) (.lst ds)), some (.fro S), some (.fro R), some (.fro (.dict fD)), some (.fro (.dict oD)), some (.fro k), s6, some (.fro .none), s8, some (.fro .none)] := by
  simp [LR5]
theorem st6 (s6 s7 s8 : Option SV) (s9 : SV) (ta : RV) (ht : φ_taken_away [.fro (.dict fD), .fro (.dict oD)] = .ok ta [.fro (.dict fD), .fro (.dict oD)]) (h1 : opNeY [ta.toD, s9.toD] = some (.fro (.bool false))) (hr : opReprD [.list [.dict fD, .dict oD]] = some (.fro k)) (hk : opNeY [k, k] = some (.fro (.bool false))) :
    LR6 [some (.own (some 0) (.lst ds)), some (.fro S), some (.fro R), some (.fro (.dict fD)), some (.fro (.dict oD)), some (.fro k), s6, s7, s8, some s9] = .nx [some (.own (some 0) (.lst ds)), some (.fro S), some (.fro R), some (.fro (.dict fD)), some (.fro (.dict oD)), some (.fro k), s6, s7, s8, some s9] := by
  simp [LR6, ht, h1, hr, hk]
theorem st7a (s7 s9 : Option SV) (tD : List (PyData × PyData)) (h1 h2 : Int) (r1 r2 : RV) (f1 : flatR r1 = true) (f2 : flatR r2 = true) (ha : φ_halves_of [.fro (.dict tD)] = .ok (.fro (.int (h1 + h2))) [.fro (.dict tD)]) (hb : φ__law_halves [.fro (.dict fD)] = .ok (.fro (.int h1)) [.fro (.dict fD)]) (hc : φ__law_halves [.fro (.dict oD)] = .ok (.fro (.int h2)) [.fro (.dict oD)])
    (hd : φ_taken_away [.fro (.dict tD), .fro (.dict oD)] = .ok r1 [.fro (.dict tD), .fro (.dict oD)]) (he : opNeY [r1.toD, .dict fD] = some (.fro (.bool false))) (hf : φ_taken_away [.fro (.dict tD), .fro (.dict fD)] = .ok r2 [.fro (.dict tD), .fro (.dict fD)]) (hg : opNeY [r2.toD, .dict oD] = some (.fro (.bool false))) :
    LR7 [some (.own (some 0) (.lst ds)), some (.fro S), some (.fro R), some (.fro (.dict fD)), some (.fro (.dict oD)), some (.fro k), some (.own none (.dct tD)), s7, some (.own none (.dct tD)), s9] = .nx [some (.own (some 0) (.lst ds)), some (.fro S), some (.fro R), some (.fro (.dict fD)), some (.fro (.dict oD)), some (.fro k), some (.own none (.dct tD)), s7, some (.own none (.dct tD)), s9] := by
  have e1 : lendE [8] [some (.own (some 0) (.lst ds)), some (.fro S), some (.fro R), some (.fro (.dict fD)), some (.fro (.dict oD)), some (.fro k), some (.own none (.dct tD)), s7, some (.own none (.dct tD)), s9] = [some (.own (some 0) (.lst ds)), some (.fro S), some (.fro R), some (.fro (.dict fD)), some (.fro (.dict oD)), some (.fro k), some (.own none (.dct tD)), s7, some (.fro (.dict tD)), s9] := rfl
  have e2 : backR [8] [some (.own (some 0) (.lst ds)), some (.fro S), some (.fro R), some (.fro (.dict fD)), some (.fro (.dict oD)), some (.fro k), some (.own none (.dct tD)), s7, some (.own none (.dct tD)), s9] [some (.own (some 0) (.lst ds)), some (.fro S), some (.fro R), some (.fro (.dict fD)), some (.fro (.dict oD)), some (.fro k), some (.own none (.dct tD)), s7, some (.fro (.dict tD)), s9] = [some (.own (some 0) (.lst ds)), some (.fro S), some (.fro R), some (.fro (.dict fD)), some (.fro (.dict oD)), some (.fro k), some (.own none (.dct tD)), s7, some (.own none (.dct tD)), s9] := rfl
  have f0 : flatR (.fro (.int (h1 + h2))) = true := rfl
  simp [LR7, e1, e2, ha, hb, hc, hd, he, hf, hg, f0, f1, f2, flatOuts]
theorem st7b (s7 s8 s9 : Option SV) :
    LR7 [some (.own (some 0) (.lst ds)), some (.fro S), some (.fro R), some (.fro (.dict fD)), some (.fro (.dict oD)), some (.fro k), some (.fro .none), s7, s8, s9] = .nx [some (.own (some 0) (.lst ds)), some (.fro S), some (.fro R), some (.fro (.dict fD)), some (.fro (.dict oD)), some (.fro k), some (.fro .none), s7, s8, s9] := by
  simp [LR7]
theorem st8a (s6 s7 s8 : Option SV) (rD : List (PyData × PyData)) (p8 : RV) (ha : φ_put_together [.fro (.dict rD), .fro (.dict oD)] = .ok p8 [.fro (.dict rD), .fro (.dict oD)]) (hb : opNeY [p8.toD, .dict fD] = some (.fro (.bool false))) (hc : φ_is_within_figure [.fro (.dict fD), .fro (.dict rD)] = .ok (.fro (.bool true)) [.fro (.dict fD), .fro (.dict rD)]) :
    LR8 [some (.own (some 0) (.lst ds)), some (.fro S), some (.fro R), some (.fro (.dict fD)), some (.fro (.dict oD)), some (.fro k), s6, s7, s8, some (.fro (.dict rD))] = .nx [some (.own (some 0) (.lst ds)), some (.fro S), some (.fro R), some (.fro (.dict fD)), some (.fro (.dict oD)), some (.fro k), s6, s7, s8, some (.fro (.dict rD))] := by
  simp [LR8, ha, hb, hc]
theorem st8b (s6 s7 s8 : Option SV) :
    LR8 [some (.own (some 0) (.lst ds)), some (.fro S), some (.fro R), some (.fro (.dict fD)), some (.fro (.dict oD)), some (.fro k), s6, s7, s8, some (.fro .none)] = .nx [some (.own (some 0) (.lst ds)), some (.fro S), some (.fro R), some (.fro (.dict fD)), some (.fro (.dict oD)), some (.fro k), s6, s7, s8, some (.fro .none)] := by
  simp [LR8]
theorem st9a (s6 s7 s9 : Option SV) (tD : List (PyData × PyData)) (c' : Own) (h : putO (.dct tD) (.tuple [.int 1000000, .int 0]) (.int 4) = some c') :
    LR9 [some (.own (some 0) (.lst ds)), some (.fro S), some (.fro R), some (.fro (.dict fD)), some (.fro (.dict oD)), some (.fro k), s6, s7, some (.own none (.dct tD)), s9] = .nx [some (.own (some 0) (.lst ds)), some (.fro S), some (.fro R), some (.fro (.dict fD)), some (.fro (.dict oD)), some (.fro k), s6, s7, some (.own none c'), s9] := by
  have p1 : opPow [.int 10, .int 6] = some (.fro (.int 1000000)) := opPow_int 10 6 6 rfl (by decide +kernel)
  simp [LR9, p1, h]
theorem st9b (s6 s7 s9 : Option SV) :
    LR9 [some (.own (some 0) (.lst ds)), some (.fro S), some (.fro R), some (.fro (.dict fD)), some (.fro (.dict oD)), some (.fro k), s6, s7, some (.fro .none), s9] = .nx [some (.own (some 0) (.lst ds)), some (.fro S), some (.fro R), some (.fro (.dict fD)), some (.fro (.dict oD)), some (.fro k), s6, s7, some (.fro .none), s9] := by
  simp [LR9]
theorem st10 (s6 : SV) (s7 s8 s9 : Option SV) (pr : RV) (hp : φ_put_together [.fro (.dict fD), .fro (.dict oD)] = .ok pr [.fro (.dict fD), .fro (.dict oD)]) (h1 : opEqY [pr.toD, s6.toD] = some (.fro (.bool true))) (hr : opReprD [.list [.dict fD, .dict oD]] = some (.fro k)) (hk : opEqY [k, k] = some (.fro (.bool true))) :
    LR10 [some (.own (some 0) (.lst ds)), some (.fro S), some (.fro R), some (.fro (.dict fD)), some (.fro (.dict oD)), some (.fro k), some s6, s7, s8, s9] = .rt (.fro (.bool true)) [some (.own (some 0) (.lst ds)), some (.fro S), some (.fro R), some (.fro (.dict fD)), some (.fro (.dict oD)), some (.fro k), some s6, s7, s8, s9] := by
  simp [LR10, hp, h1, hr, hk]
end
theorem fig_closed {f o : FigL} (F : FigB 1601 4000 f) (G : FigB 1601 4000 o) : Fig (closed f o) := by
  have h1 := closed_length f o
  have h2 := F.len
  have h3 := G.len
  refine ⟨closed_nodup F.nd G.nd, fun z => ?_, closed_vals F.nd G.nd F.val G.val, by omega, fun q hq => ?_⟩
  · have := F.ne
    have e := congrArg fkeys z
    rw [fkeys_closed] at e
    cases f with
    | nil => exact this rfl
    | cons q f => simp at e
  · have hk : q.1 ∈ fkeys (closed f o) := List.mem_map_of_mem (f := (·.1)) hq
    rw [fkeys_closed, List.mem_append] at hk
    have hk' : q.1 ∈ fkeys f ∨ q.1 ∈ fkeys o := hk.imp id fun z => (List.mem_filter.mp z).1
    rcases hk' with hk | hk
    · obtain ⟨p, hp, e⟩ := List.mem_map.mp hk
      have := F.far p hp
      rw [e] at this
      omega
    · obtain ⟨p, hp, e⟩ := List.mem_map.mp hk
      have := G.far p hp
      rw [e] at this
      omega
theorem FigB.farP {l : FigL} (F : FigB 1601 4000 l) : farP l := fun q hq => by
  have h1 := F.far q hq
  have h2 := F.val q hq
  omega
theorem eqF_ne {a b : FigL} (h : EqF a b) (hb : b ≠ []) : a ≠ [] := fun z => by
  have := h.1
  rw [z] at this
  cases b with
  | nil => exact hb rfl
  | cons q b => simp at this
theorem e_law_right (N : Int) (hN : N < 400000000) (ds : List PyData) (g : GenAt N ds) (S R : Int) (hS : 1 ≤ S ∧ S ≤ 40) (hR : 1 ≤ R ∧ R ≤ 160) : ∃ ds', GenAt (N + 60000) ds' ∧
    φ__law_right [.own (some 0) (.lst ds), .fro (.int S), .fro (.int R)] = .ok (.fro (.bool true)) [.own (some 0) (.lst ds'), .fro (.int S), .fro (.int R)] := by
  obtain ⟨ds1, f0, o0, F0, G0, g1, e2⟩ := e_two N (by omega) ds g S R hS hR
  obtain ⟨ds2, f, pf, g2, esf⟩ := e_shuffled (N + 50000) (by omega) ds1 g1 1601 4000 f0 F0 (by omega)
  obtain ⟨ds3, o, po, g3, eso⟩ := e_shuffled (N + 50000 + (1601 : Nat)) (by omega) ds2 g2 1601 4000 o0 G0 (by omega)
  have F := F0.perm pf
  have G := G0.perm po
  have Ff := F.fig (by decide) (by decide)
  have Gf := G.fig (by decide) (by decide)
  obtain ⟨str, hr, hsh⟩ := two_repr F.farP G.farP (by have := F.len; omega) (by have := G.len; omega)
  refine ⟨ds3, GenAt.mono (by omega) g3, ?_⟩
  have ek := e_kinds f o Ff Gf
  have ew := e_is_within_figure f o Ff Gf
  have et := e_taken f o Ff Gf
  have k1 := strEq_ne hsh
  have k2 := strEq_eq hsh
  have t0 : LR0 [some (.own (some 0) (.lst ds)), some (.fro (.int S)), some (.fro (.int R)), none, none, none, none, none, none, none] = .nx [some (.own (some 0) (.lst ds1)), some (.fro (.int S)), some (.fro (.int R)), some (.fro (.dict (figD f0))), some (.fro (.dict (figD o0))), none, none, none, none, none] := by
    generalize figD f0 = fD at *
    generalize figD o0 = oD at *
    simp [LR0, e2]
  have t1 : LR1 [some (.own (some 0) (.lst ds1)), some (.fro (.int S)), some (.fro (.int R)), some (.fro (.dict (figD f0))), some (.fro (.dict (figD o0))), none, none, none, none, none] = .nx [some (.own (some 0) (.lst ds3)), some (.fro (.int S)), some (.fro (.int R)), some (.own none (.dct (figD f))), some (.own none (.dct (figD o))), none, none, none, none, none] := by
    generalize figD f0 = fD0 at *
    generalize figD o0 = oD0 at *
    generalize figD f = fD at *
    generalize figD o = oD at *
    simp [LR1, esf, eso]
  have t2 : ∀ (dr kr : RV), φ__law_put [.fro (.dict (figD f)), .fro (.dict (figD o))] = .ok dr [.fro (.dict (figD f)), .fro (.dict (figD o))] → φ__law_kinds [.fro (.dict (figD f)), .fro (.dict (figD o))] = .ok kr [.fro (.dict (figD f)), .fro (.dict (figD o))] →
      LR2 [some (.own (some 0) (.lst ds3)), some (.fro (.int S)), some (.fro (.int R)), some (.own none (.dct (figD f))), some (.own none (.dct (figD o))), none, none, none, none, none] = .nx [some (.own (some 0) (.lst ds3)), some (.fro (.int S)), some (.fro (.int R)), some (.fro (.dict (figD f))), some (.fro (.dict (figD o))), some (.fro (.str str)), some dr.sv, some kr.sv, none, none] := fun dr kr h1 h2 => by
    generalize figD f = fD at *
    generalize figD o = oD at *
    simp [LR2, hr, h1, h2]
  have t3 : ∀ (s6 s7 : Option SV) (pr : RV), φ_put_together [.fro (.dict (figD f)), .fro (.dict (figD o))] = .ok pr [.fro (.dict (figD f)), .fro (.dict (figD o))] →
      LR3 [some (.own (some 0) (.lst ds3)), some (.fro (.int S)), some (.fro (.int R)), some (.fro (.dict (figD f))), some (.fro (.dict (figD o))), some (.fro (.str str)), s6, s7, none, none] = .nx [some (.own (some 0) (.lst ds3)), some (.fro (.int S)), some (.fro (.int R)), some (.fro (.dict (figD f))), some (.fro (.dict (figD o))), some (.fro (.str str)), s6, s7, some pr.sv, none] := fun s6 s7 pr h1 => by
    generalize figD f = fD at *
    generalize figD o = oD at *
    simp [LR3, h1]
  -- what is due
  have due : ∃ pr : RV, φ__law_put [.fro (.dict (figD f)), .fro (.dict (figD o))] = .ok pr [.fro (.dict (figD f)), .fro (.dict (figD o))] ∧ φ_put_together [.fro (.dict (figD f)), .fro (.dict (figD o))] = .ok pr [.fro (.dict (figD f)), .fro (.dict (figD o))] ∧ opNeY [pr.toD, pr.toD] = some (.fro (.bool false)) ∧ opEqY [pr.toD, pr.toD] = some (.fro (.bool true)) ∧ pr.sv.toD = pr.toD ∧
      ∀ s7 s9 : Option SV, ∃ s8 : Option SV,
        LR7 [some (.own (some 0) (.lst ds3)), some (.fro (.int S)), some (.fro (.int R)), some (.fro (.dict (figD f))), some (.fro (.dict (figD o))), some (.fro (.str str)), some pr.sv, s7, some pr.sv, s9] = .nx [some (.own (some 0) (.lst ds3)), some (.fro (.int S)), some (.fro (.int R)), some (.fro (.dict (figD f))), some (.fro (.dict (figD o))), some (.fro (.str str)), some pr.sv, s7, some pr.sv, s9] ∧
        LR9 [some (.own (some 0) (.lst ds3)), some (.fro (.int S)), some (.fro (.int R)), some (.fro (.dict (figD f))), some (.fro (.dict (figD o))), some (.fro (.str str)), some pr.sv, s7, some pr.sv, s9] = .nx [some (.own (some 0) (.lst ds3)), some (.fro (.int S)), some (.fro (.int R)), some (.fro (.dict (figD f))), some (.fro (.dict (figD o))), some (.fro (.str str)), some pr.sv, s7, s8, s9] := by
    rcases e_law_put f o Ff Gf with ⟨hg, ep⟩ | ⟨⟨q, hq, nq⟩, ep⟩
    · rcases e_put f o Ff Gf with ⟨_, ept⟩ | ⟨⟨q, hq, nq⟩, _⟩
      · have Ft := fig_closed F G
        have nt := Ft.nd
        refine ⟨_, ep, ept, ne_fig (EqF.refl nt), eq_fig (EqF.refl nt), rfl, fun s7 s9 => ?_⟩
        have b1 := back_one F.nd G.nd F.val hg
        have b2 := back_two F.nd G.nd G.val hg
        have e1 := e_taken (closed f o) o Ft Gf
        have e3 := e_taken (closed f o) f Ft Ff
        unfold takR at e1 e3
        rw [if_pos b1.1, if_neg (eqF_ne b1.2 F.ne)] at e1
        rw [if_pos b2.1, if_neg (eqF_ne b2.2 G.ne)] at e3
        have hh := e_halves_of (closed f o) Ft
        rw [halves_closed F.nd G.nd hg] at hh
        have tl : (closed f o).length ≤ 1000000 := by have := Ft.len; omega
        have pu := putO_fig (l := closed f o) (1000000, 0) 4 tl
        exact ⟨_, st7a ds3 (.int S) (.int R) (figD f) (figD o) (.str str) s7 s9 (figD (closed f o)) (halves f) (halves o) (.nw (.dct (figD (restL (closed f o) o)))) (.nw (.dct (figD (restL (closed f o) f)))) (flat_fig _) (flat_fig _) hh (e_halves f F.nd (by have := F.len; omega)) (e_halves o G.nd (by have := G.len; omega)) e1 (ne_fig b1.2) e3 (ne_fig b2.2),
          st9a ds3 (.int S) (.int R) (figD f) (figD o) (.str str) (some (.own none (.dct (figD (closed f o))))) s7 s9 (figD (closed f o)) _ pu⟩
      · exact absurd (hg q hq) nq
    · rcases e_put f o Ff Gf with ⟨hg, _⟩ | ⟨_, ept⟩
      · exact absurd (hg q hq) nq
      · exact ⟨_, ep, ept, ne_none, eq_none, rfl, fun s7 s9 => ⟨_, st7b ds3 (.int S) (.int R) (figD f) (figD o) (.str str) s7 (some (.fro .none)) s9, st9b ds3 (.int S) (.int R) (figD f) (figD o) (.str str) (some (.fro .none)) s7 s9⟩⟩
  obtain ⟨pr, ep, ept, pne, peq, psv, d7⟩ := due
  have h6 : opNeY [pr.sv.toD, pr.sv.toD] = some (.fro (.bool false)) := by rw [psv]; exact pne
  have h6' : opNeY [pr.toD, pr.sv.toD] = some (.fro (.bool false)) := by rw [psv]; exact pne
  have h6e : opEqY [pr.toD, pr.sv.toD] = some (.fro (.bool true)) := by rw [psv]; exact peq
  -- what is left
  have left : ∃ (kr : RV) (s7 : SV) (s9 : SV), φ__law_kinds [.fro (.dict (figD f)), .fro (.dict (figD o))] = .ok kr [.fro (.dict (figD f)), .fro (.dict (figD o))] ∧ opIsNot [kr.sv.toD, .none] = some (.fro (.bool (within f o))) ∧
      (∀ s6 s8 s0 : Option SV, LR5 [some (.own (some 0) (.lst ds3)), some (.fro (.int S)), some (.fro (.int R)), some (.fro (.dict (figD f))), some (.fro (.dict (figD o))), some (.fro (.str str)), s6, some kr.sv, s8, s0] = .nx [some (.own (some 0) (.lst ds3)), some (.fro (.int S)), some (.fro (.int R)), some (.fro (.dict (figD f))), some (.fro (.dict (figD o))), some (.fro (.str str)), s6, some s7, s8, some s9]) ∧
      opNeY [(takR f o).toD, s9.toD] = some (.fro (.bool false)) ∧
      (∀ s6 s8 : Option SV, LR8 [some (.own (some 0) (.lst ds3)), some (.fro (.int S)), some (.fro (.int R)), some (.fro (.dict (figD f))), some (.fro (.dict (figD o))), some (.fro (.str str)), s6, some s7, s8, some s9] = .nx [some (.own (some 0) (.lst ds3)), some (.fro (.int S)), some (.fro (.int R)), some (.fro (.dict (figD f))), some (.fro (.dict (figD o))), some (.fro (.str str)), s6, some s7, s8, some s9]) := by
    by_cases w : within f o = true
    · rw [if_pos w] at ek
      unfold takR
      rw [if_pos w, w]
      by_cases hn : restL f o = []
      · refine ⟨_, _, _, ek, rfl, fun s6 s8 s0 => st5b ds3 (.int S) (.int R) (figD f) (figD o) (.str str) s6 s8 s0 (figD (restL f o)) ?_, ?_, fun s6 s8 => st8b ds3 (.int S) (.int R) (figD f) (figD o) (.str str) s6 _ s8⟩
        · rw [ne_empty, hn]
          rfl
        · rw [if_pos hn]
          exact ne_none
      · have Fr := F.rest o hn
        have Rf := Fr.fig (by decide) (by decide)
        have b3 := back_three F.nd G.nd G.val w
        have ew2 := e_is_within_figure f (restL f o) Ff Rf
        rw [b3.2.2] at ew2
        rcases e_put (restL f o) o Rf Gf with ⟨_, ep3⟩ | ⟨⟨q, hq, nq⟩, _⟩
        · refine ⟨_, _, _, ek, rfl, fun s6 s8 s0 => st5a ds3 (.int S) (.int R) (figD f) (figD o) (.str str) s6 s8 s0 (figD (restL f o)) ?_, ?_, fun s6 s8 => st8a ds3 (.int S) (.int R) (figD f) (figD o) (.str str) s6 _ s8 (figD (restL f o)) _ ep3 (ne_fig b3.2.1) ew2⟩
          · rw [ne_empty, isEmpty_false hn]
            rfl
          · rw [if_neg hn]
            exact ne_fig (EqF.refl Fr.nd)
        · exact absurd (b3.1 q hq) nq
    · have w' : within f o = false := by simpa using w
      rw [if_neg w] at ek
      unfold takR
      rw [if_neg w, w']
      exact ⟨_, _, _, ek, rfl, fun s6 s8 s0 => st5c ds3 (.int S) (.int R) (figD f) (figD o) (.str str) s6 s8 s0, ne_none, fun s6 s8 => st8b ds3 (.int S) (.int R) (figD f) (figD o) (.str str) s6 _ s8⟩
  obtain ⟨kr, s7, s9, ekr, h7, t5, h9, t8⟩ := left
  obtain ⟨s8, t7, t9⟩ := d7 (some s7) (some s9)
  have t4 := st4 ds3 (.int S) (.int R) (figD f) (figD o) (.str str) pr.sv kr.sv pr.sv none pr (within f o) ept h6 h6' ew h7
  have t6 := st6 ds3 (.int S) (.int R) (figD f) (figD o) (.str str) (some pr.sv) (some s7) (some pr.sv) s9 _ et h9 hr k1
  have t10 := st10 ds3 (.int S) (.int R) (figD f) (figD o) (.str str) pr.sv (some s7) s8 (some s9) pr ept h6e hr k2
  have t2' := t2 pr kr ep ekr
  have t3' := t3 (some pr.sv) (some kr.sv) pr ept
  have t5' := t5 (some pr.sv) (some pr.sv) none
  have t8' := t8 (some pr.sv) (some pr.sv)
  clear t2 t3 t5 t8 d7
  unfold φ__law_right
  rw [runB_ok (by rfl), LR_eq]
  simp only [entryΓ_eq, List.map_cons, List.map_nil, List.cons_append, List.nil_append, List.replicate, seqF_eq, t0, t1, t2', t3', t4, t5', t6, t7, t8', t9, t10, andThen_nx, runO_rt]
  simp
end PD
end

section
set_option maxHeartbeats 1000000
namespace PD
open PySem PySem.Spec PyProof.Rows L2
def outD (ns : List Int) : List SV := [.fro (.list (ns.map .int))]
def sizeAt : Nat → Int
  | 0 => 40
  | 1 => 20
  | 2 => 12
  | 3 => 6
  | _ => 3
def farAt : Nat → Int
  | 0 => 1
  | 1 => 3
  | 2 => 40
  | 3 => 160
  | _ => 12
theorem size_ix (i : Nat) (hi : i < 5) : atI [PyData.int 40, .int 20, .int 12, .int 6, .int 3] (i : Int) = some (PyData.int (sizeAt i)) := by
  rw [atI_of]
  match i, hi with
  | 0, _ => rfl
  | 1, _ => rfl
  | 2, _ => rfl
  | 3, _ => rfl
  | 4, _ => rfl
theorem far_ix (i : Nat) (hi : i < 5) : atI [PyData.int 1, .int 3, .int 40, .int 160, .int 12] (i : Int) = some (PyData.int (farAt i)) := by
  rw [atI_of]
  match i, hi with
  | 0, _ => rfl
  | 1, _ => rfl
  | 2, _ => rfl
  | 3, _ => rfl
  | 4, _ => rfl
theorem size_bd (i : Nat) : 1 ≤ sizeAt i ∧ sizeAt i ≤ 40 := by
  unfold sizeAt
  split <;> decide
theorem far_bd (i : Nat) : 1 ≤ farAt i ∧ farAt i ≤ 160 := by
  unfold farAt
  split <;> decide
theorem law_turn4 (ns : List Int) (i : Nat) (hi : i < 5) (N : Int) (hN : N < 300000000) (ds : List PyData) (g : GenAt N ds) (t : PyData) (x3 : Option SV) : ∃ ds', GenAt (N + 60000) ds' ∧
    turnF (nameG 3) B_law_0 t [some (.fro (.list (ns.map .int))), some (.fro (.int (i : Nat))), some (.own none (.lst ds)), x3] = .nx [some (.fro (.list (ns.map .int))), some (.fro (.int (i : Nat))), some (.own none (.lst ds')), some (.fro t)] := by
  obtain ⟨ds', g', e⟩ := e_law_right N (by omega) ds g (sizeAt i) (farAt i) (size_bd i) (far_bd i)
  refine ⟨ds', g', ?_⟩
  have a := size_ix i hi
  have b := far_ix i hi
  generalize (i : Int) = I at *
  generalize ns.map PyData.int = sc at *
  simp [turnF, B_law_0, a, b, e]
theorem law_turn5 (ns : List Int) (i : Nat) (hi : i < 5) (x1 x2 x3 : Option SV) : ∃ y2 y3, turnF (nameG 1) B_law_1 (.int (0 + (i : Int))) [some (.fro (.list (ns.map .int))), x1, x2, x3] = .nx [some (.fro (.list (ns.map .int))), some (.fro (.int (0 + (i : Int)))), y2, y3] := by
  obtain ⟨ds, g, e⟩ := e_generator ns i hi
  rw [Int.zero_add]
  obtain ⟨Γ', e4, ds', y3, g', rfl⟩ := loop_range (g := nameG 3) (body := B_law_0) (lo := 0) (n := 4)
    (fun j Γ => ∃ ds' y3, GenAt (4000 + 60000 * (j : Nat)) ds' ∧ Γ = [some (.fro (.list (ns.map .int))), some (.fro (.int (i : Nat))), some (.own none (.lst ds')), y3])
    (Γ0 := [some (.fro (.list (ns.map .int))), some (.fro (.int (i : Nat))), some (.own none (.lst ds)), x3]) ⟨ds, x3, GenAt.mono (by omega) g, rfl⟩ fun j Γ hj h => by
      obtain ⟨ds', y3, g', rfl⟩ := h
      obtain ⟨ds2, g2, e2⟩ := law_turn4 ns i hi _ (by omega) ds' g' (.int (0 + (j : Nat))) y3
      exact ⟨_, e2, ds2, _, GenAt.mono (by omega) g2, rfl⟩
  refine ⟨some (.own none (.lst ds')), y3, ?_⟩
  have z : small62 4 = true := by decide
  generalize (i : Int) = I at *
  generalize ns.map PyData.int = sc at *
  simp [turnF, B_law_1, e, z, e4]
theorem law_true (ns : List Int) (hl : ns.length ≤ 63) : φ_law [.fro (.list (ns.map .int))] = .ok (.fro (.bool true)) (outD ns) := by
  obtain ⟨Γ', e, x1, x2, x3, rfl⟩ := loop_range (g := nameG 1) (body := B_law_1) (lo := 0) (n := 5)
    (fun i Γ => ∃ x1 x2 x3, Γ = [some (.fro (.list (ns.map .int))), x1, x2, x3])
    (Γ0 := [some (.fro (.list (ns.map .int))), none, none, none]) ⟨none, none, none, rfl⟩ (fun i Γ hi q => by
      obtain ⟨x1, x2, x3, rfl⟩ := q
      obtain ⟨y2, y3, e⟩ := law_turn5 ns i hi x1 x2 x3
      exact ⟨_, e, _, y2, y3, rfl⟩)
  have z : small62 5 = true := by decide
  unfold outD
  generalize ns.map PyData.int = sc at *
  simp [φ_law, F_law, z, e]
end PD
end

section
set_option maxHeartbeats 0
namespace PD
open PySem PySem.Spec PyProof.Rows L2
def h__law_cell : He.DefD := ⟨("_law_cell", none), "_law_cell", "_law_cell", defArgs s__law_cell, defBody s__law_cell, defScope s__law_cell, [], []⟩
def h__law_generator : He.DefD := ⟨("_law_generator", none), "_law_generator", "_law_generator", defArgs s__law_generator, defBody s__law_generator, defScope s__law_generator, [], []⟩
def h__law_halves : He.DefD := ⟨("_law_halves", none), "_law_halves", "_law_halves", defArgs s__law_halves, defBody s__law_halves, defScope s__law_halves, [], []⟩
def h__law_kinds : He.DefD := ⟨("_law_kinds", none), "_law_kinds", "_law_kinds", defArgs s__law_kinds, defBody s__law_kinds, defScope s__law_kinds, [], []⟩
def h__law_put : He.DefD := ⟨("_law_put", none), "_law_put", "_law_put", defArgs s__law_put, defBody s__law_put, defScope s__law_put, [], []⟩
def h__law_hash : He.DefD := ⟨("_law_hash", none), "_law_hash", "_law_hash", defArgs s__law_hash, defBody s__law_hash, defScope s__law_hash, [], []⟩
def h__law_random : He.DefD := ⟨("_law_random", none), "_law_random", "_law_random", defArgs s__law_random, defBody s__law_random, defScope s__law_random, [], []⟩
def h__law_drawn : He.DefD := ⟨("_law_drawn", none), "_law_drawn", "_law_drawn", defArgs s__law_drawn, defBody s__law_drawn, defScope s__law_drawn, [], []⟩
def h__law_shuffled : He.DefD := ⟨("_law_shuffled", none), "_law_shuffled", "_law_shuffled", defArgs s__law_shuffled, defBody s__law_shuffled, defScope s__law_shuffled, [], []⟩
def h__law_near : He.DefD := ⟨("_law_near", none), "_law_near", "_law_near", defArgs s__law_near, defBody s__law_near, defScope s__law_near, [], []⟩
def h__law_pick : He.DefD := ⟨("_law_pick", none), "_law_pick", "_law_pick", defArgs s__law_pick, defBody s__law_pick, defScope s__law_pick, [], []⟩
def h__law_sides : He.DefD := ⟨("_law_sides", none), "_law_sides", "_law_sides", defArgs s__law_sides, defBody s__law_sides, defScope s__law_sides, [], []⟩
def h__law_grown : He.DefD := ⟨("_law_grown", none), "_law_grown", "_law_grown", defArgs s__law_grown, defBody s__law_grown, defScope s__law_grown, [], []⟩
def h__law_moved : He.DefD := ⟨("_law_moved", none), "_law_moved", "_law_moved", defArgs s__law_moved, defBody s__law_moved, defScope s__law_moved, [], []⟩
def h__law_part : He.DefD := ⟨("_law_part", none), "_law_part", "_law_part", defArgs s__law_part, defBody s__law_part, defScope s__law_part, [], []⟩
def h__law_two : He.DefD := ⟨("_law_two", none), "_law_two", "_law_two", defArgs s__law_two, defBody s__law_two, defScope s__law_two, [], []⟩
def h_is_whole : He.DefD := ⟨("is_whole", none), "is_whole", "is_whole", defArgs s_is_whole, defBody s_is_whole, defScope s_is_whole, [], []⟩
def h_is_count : He.DefD := ⟨("is_count", none), "is_count", "is_count", defArgs s_is_count, defBody s_is_count, defScope s_is_count, [], []⟩
def h_is_whole_number : He.DefD := ⟨("is_whole_number", none), "is_whole_number", "is_whole_number", defArgs s_is_whole_number, defBody s_is_whole_number, defScope s_is_whole_number, [], []⟩
def h_is_cell : He.DefD := ⟨("is_cell", none), "is_cell", "is_cell", defArgs s_is_cell, defBody s_is_cell, defScope s_is_cell, [], []⟩
def h_is_figure : He.DefD := ⟨("is_figure", none), "is_figure", "is_figure", defArgs s_is_figure, defBody s_is_figure, defScope s_is_figure, [], []⟩
def h_check_figure : He.DefD := ⟨("check_figure", none), "check_figure", "check_figure", defArgs s_check_figure, defBody s_check_figure, defScope s_check_figure, [], []⟩
def h_halves_in : He.DefD := ⟨("halves_in", none), "halves_in", "halves_in", defArgs s_halves_in, defBody s_halves_in, defScope s_halves_in, [], []⟩
def h_halves_of : He.DefD := ⟨("halves_of", none), "halves_of", "halves_of", defArgs s_halves_of, defBody s_halves_of, defScope s_halves_of, [], []⟩
def h_check_two_figures : He.DefD := ⟨("check_two_figures", none), "check_two_figures", "check_two_figures", defArgs s_check_two_figures, defBody s_check_two_figures, defScope s_check_two_figures, [], []⟩
def h_is_within : He.DefD := ⟨("is_within", none), "is_within", "is_within", defArgs s_is_within, defBody s_is_within, defScope s_is_within, [], []⟩
def h_is_within_figure : He.DefD := ⟨("is_within_figure", none), "is_within_figure", "is_within_figure", defArgs s_is_within_figure, defBody s_is_within_figure, defScope s_is_within_figure, [], []⟩
def h_put_together : He.DefD := ⟨("put_together", none), "put_together", "put_together", defArgs s_put_together, defBody s_put_together, defScope s_put_together, [], []⟩
def h_left_without : He.DefD := ⟨("left_without", none), "left_without", "left_without", defArgs s_left_without, defBody s_left_without, defScope s_left_without, [], []⟩
def h_taken_away : He.DefD := ⟨("taken_away", none), "taken_away", "taken_away", defArgs s_taken_away, defBody s_taken_away, defScope s_taken_away, [], []⟩
def h__law_right : He.DefD := ⟨("_law_right", none), "_law_right", "_law_right", defArgs s__law_right, defBody s__law_right, defScope s__law_right, [], []⟩
def h_law : He.DefD := ⟨("law", none), "law", "law", defArgs s_law, defBody s_law, defScope s_law, [], []⟩
def fnD0 : List He.DefD := [h__law_cell, h__law_generator, h__law_halves, h__law_kinds, h__law_put, h__law_hash, h__law_random, h__law_drawn, h__law_shuffled, h__law_near, h__law_pick, h__law_sides, h__law_grown, h__law_moved, h__law_part, h__law_two, h_is_whole, h_is_count, h_is_whole_number, h_is_cell, h_is_figure, h_check_figure, h_halves_in, h_halves_of, h_check_two_figures, h_is_within, h_is_within_figure, h_put_together, h_left_without, h_taken_away]
def fnD1 : List He.DefD := [h__law_right, h_law]
def fnD : List He.DefD := fnD0 ++ fnD1
def faD0 : List He.Fa := [.glo "_law_cell", .glo "_law_generator", .glo "_law_halves", .glo "_law_kinds", .glo "_law_put", .glo "_law_hash", .glo "_law_random", .glo "_law_drawn", .glo "_law_shuffled", .glo "_law_near", .glo "_law_pick", .glo "_law_sides", .glo "_law_grown", .glo "_law_moved", .glo "_law_part", .glo "_law_two", .glo "is_whole", .glo "is_count", .glo "is_whole_number", .glo "is_cell", .glo "is_figure", .glo "check_figure", .glo "halves_in", .glo "halves_of", .glo "check_two_figures", .glo "is_within", .glo "is_within_figure", .glo "put_together", .glo "left_without", .glo "taken_away"]
def faD1 : List He.Fa := [.glo "_law_right", .glo "law", .free "abs", .free "all", .free "bool", .free "dict", .free "int", .free "isinstance", .free "len", .free "list", .free "max", .free "range", .free "repr", .free "sorted", .free "sum", .free "tuple", .int "WHOLE" 4]
def faD : List He.Fa := faD0 ++ faD1
def loose0 : List PySem.Str := ["TanError", "InvalidFigure", "is_whole", "is_count", "WHOLE", "is_whole_number", "is_cell", "is_figure", "check_figure", "halves_in", "halves_of", "check_two_figures", "put_together", "is_within", "is_within_figure", "left_without", "taken_away", "_law_cell", "_law_hash", "_law_generator", "_law_random", "_law_pick", "_law_drawn", "_law_sides", "_law_moved", "_law_near", "_law_put", "_law_halves", "_law_grown", "_law_shuffled"]
def loose1 : List PySem.Str := ["_law_kinds", "_law_part", "_law_two", "_law_right"]
def looseD : List PySem.Str := loose0 ++ loose1
abbrev Rw : PySem.W.OpenRow := PySem.W.OpenLaw.row PySem.Challenge.rw_tanhall_k02_whole_figures_put_together_f
def chkD (K : PySem.W.Frag) : Bool := noSysB K
abbrev hkD : PySem.W.Hook := hookQ 4 faD fnD chkD
def obD (s : PySem.W.SharedT) : AlQ := obsQ 4 faD fnD chkD (HandSHeadRun.getT s)
theorem obD_eq (s : PySem.W.SharedT) : obD s = hkD.obs s.abs := obsQ_eq (HandSHeadRun.getT_eq s)
theorem runD (w : World) : HandSHeadRun.RunEq Rw (PySem.W.view Rw.prog [39]) hkD obD 6000 looseD w := by
  intro os
  kernel_rfl
theorem world_of {K : PySem.W.Frag} {h : Heap} {mg : Str → Option Value} (X : K.In h) (G : h.Ns mainGlobals mg) (c : He.SaysD faD fnD K) (c2 : chkD K = true) : World_ K mg where
  sys := noSys_of c2
  f__law_cell := by
    obtain ⟨fd, F⟩ := c.def_ 0 (d := h__law_cell) rfl
    exact ⟨_, fd, He.glo_ok X G (c.fact 0 (f := .glo "_law_cell") rfl), F⟩
  f__law_generator := by
    obtain ⟨fd, F⟩ := c.def_ 1 (d := h__law_generator) rfl
    exact ⟨_, fd, He.glo_ok X G (c.fact 1 (f := .glo "_law_generator") rfl), F⟩
  f__law_halves := by
    obtain ⟨fd, F⟩ := c.def_ 2 (d := h__law_halves) rfl
    exact ⟨_, fd, He.glo_ok X G (c.fact 2 (f := .glo "_law_halves") rfl), F⟩
  f__law_kinds := by
    obtain ⟨fd, F⟩ := c.def_ 3 (d := h__law_kinds) rfl
    exact ⟨_, fd, He.glo_ok X G (c.fact 3 (f := .glo "_law_kinds") rfl), F⟩
  f__law_put := by
    obtain ⟨fd, F⟩ := c.def_ 4 (d := h__law_put) rfl
    exact ⟨_, fd, He.glo_ok X G (c.fact 4 (f := .glo "_law_put") rfl), F⟩
  f__law_hash := by
    obtain ⟨fd, F⟩ := c.def_ 5 (d := h__law_hash) rfl
    exact ⟨_, fd, He.glo_ok X G (c.fact 5 (f := .glo "_law_hash") rfl), F⟩
  f__law_random := by
    obtain ⟨fd, F⟩ := c.def_ 6 (d := h__law_random) rfl
    exact ⟨_, fd, He.glo_ok X G (c.fact 6 (f := .glo "_law_random") rfl), F⟩
  f__law_drawn := by
    obtain ⟨fd, F⟩ := c.def_ 7 (d := h__law_drawn) rfl
    exact ⟨_, fd, He.glo_ok X G (c.fact 7 (f := .glo "_law_drawn") rfl), F⟩
  f__law_shuffled := by
    obtain ⟨fd, F⟩ := c.def_ 8 (d := h__law_shuffled) rfl
    exact ⟨_, fd, He.glo_ok X G (c.fact 8 (f := .glo "_law_shuffled") rfl), F⟩
  f__law_near := by
    obtain ⟨fd, F⟩ := c.def_ 9 (d := h__law_near) rfl
    exact ⟨_, fd, He.glo_ok X G (c.fact 9 (f := .glo "_law_near") rfl), F⟩
  f__law_pick := by
    obtain ⟨fd, F⟩ := c.def_ 10 (d := h__law_pick) rfl
    exact ⟨_, fd, He.glo_ok X G (c.fact 10 (f := .glo "_law_pick") rfl), F⟩
  f__law_sides := by
    obtain ⟨fd, F⟩ := c.def_ 11 (d := h__law_sides) rfl
    exact ⟨_, fd, He.glo_ok X G (c.fact 11 (f := .glo "_law_sides") rfl), F⟩
  f__law_grown := by
    obtain ⟨fd, F⟩ := c.def_ 12 (d := h__law_grown) rfl
    exact ⟨_, fd, He.glo_ok X G (c.fact 12 (f := .glo "_law_grown") rfl), F⟩
  f__law_moved := by
    obtain ⟨fd, F⟩ := c.def_ 13 (d := h__law_moved) rfl
    exact ⟨_, fd, He.glo_ok X G (c.fact 13 (f := .glo "_law_moved") rfl), F⟩
  f__law_part := by
    obtain ⟨fd, F⟩ := c.def_ 14 (d := h__law_part) rfl
    exact ⟨_, fd, He.glo_ok X G (c.fact 14 (f := .glo "_law_part") rfl), F⟩
  f__law_two := by
    obtain ⟨fd, F⟩ := c.def_ 15 (d := h__law_two) rfl
    exact ⟨_, fd, He.glo_ok X G (c.fact 15 (f := .glo "_law_two") rfl), F⟩
  f_is_whole := by
    obtain ⟨fd, F⟩ := c.def_ 16 (d := h_is_whole) rfl
    exact ⟨_, fd, He.glo_ok X G (c.fact 16 (f := .glo "is_whole") rfl), F⟩
  f_is_count := by
    obtain ⟨fd, F⟩ := c.def_ 17 (d := h_is_count) rfl
    exact ⟨_, fd, He.glo_ok X G (c.fact 17 (f := .glo "is_count") rfl), F⟩
  f_is_whole_number := by
    obtain ⟨fd, F⟩ := c.def_ 18 (d := h_is_whole_number) rfl
    exact ⟨_, fd, He.glo_ok X G (c.fact 18 (f := .glo "is_whole_number") rfl), F⟩
  f_is_cell := by
    obtain ⟨fd, F⟩ := c.def_ 19 (d := h_is_cell) rfl
    exact ⟨_, fd, He.glo_ok X G (c.fact 19 (f := .glo "is_cell") rfl), F⟩
  f_is_figure := by
    obtain ⟨fd, F⟩ := c.def_ 20 (d := h_is_figure) rfl
    exact ⟨_, fd, He.glo_ok X G (c.fact 20 (f := .glo "is_figure") rfl), F⟩
  f_check_figure := by
    obtain ⟨fd, F⟩ := c.def_ 21 (d := h_check_figure) rfl
    exact ⟨_, fd, He.glo_ok X G (c.fact 21 (f := .glo "check_figure") rfl), F⟩
  f_halves_in := by
    obtain ⟨fd, F⟩ := c.def_ 22 (d := h_halves_in) rfl
    exact ⟨_, fd, He.glo_ok X G (c.fact 22 (f := .glo "halves_in") rfl), F⟩
  f_halves_of := by
    obtain ⟨fd, F⟩ := c.def_ 23 (d := h_halves_of) rfl
    exact ⟨_, fd, He.glo_ok X G (c.fact 23 (f := .glo "halves_of") rfl), F⟩
  f_check_two_figures := by
    obtain ⟨fd, F⟩ := c.def_ 24 (d := h_check_two_figures) rfl
    exact ⟨_, fd, He.glo_ok X G (c.fact 24 (f := .glo "check_two_figures") rfl), F⟩
  f_is_within := by
    obtain ⟨fd, F⟩ := c.def_ 25 (d := h_is_within) rfl
    exact ⟨_, fd, He.glo_ok X G (c.fact 25 (f := .glo "is_within") rfl), F⟩
  f_is_within_figure := by
    obtain ⟨fd, F⟩ := c.def_ 26 (d := h_is_within_figure) rfl
    exact ⟨_, fd, He.glo_ok X G (c.fact 26 (f := .glo "is_within_figure") rfl), F⟩
  f_put_together := by
    obtain ⟨fd, F⟩ := c.def_ 27 (d := h_put_together) rfl
    exact ⟨_, fd, He.glo_ok X G (c.fact 27 (f := .glo "put_together") rfl), F⟩
  f_left_without := by
    obtain ⟨fd, F⟩ := c.def_ 28 (d := h_left_without) rfl
    exact ⟨_, fd, He.glo_ok X G (c.fact 28 (f := .glo "left_without") rfl), F⟩
  f_taken_away := by
    obtain ⟨fd, F⟩ := c.def_ 29 (d := h_taken_away) rfl
    exact ⟨_, fd, He.glo_ok X G (c.fact 29 (f := .glo "taken_away") rfl), F⟩
  f__law_right := by
    obtain ⟨fd, F⟩ := c.def_ 30 (d := h__law_right) rfl
    exact ⟨_, fd, He.glo_ok X G (c.fact 30 (f := .glo "_law_right") rfl), F⟩
  f_law := by
    obtain ⟨fd, F⟩ := c.def_ 31 (d := h_law) rfl
    exact ⟨_, fd, He.glo_ok X G (c.fact 31 (f := .glo "law") rfl), F⟩
  g_abs := He.free_ok X G (c.fact 32 (f := .free "abs") rfl)
  g_all := He.free_ok X G (c.fact 33 (f := .free "all") rfl)
  g_bool := He.free_ok X G (c.fact 34 (f := .free "bool") rfl)
  g_dict := He.free_ok X G (c.fact 35 (f := .free "dict") rfl)
  g_int := He.free_ok X G (c.fact 36 (f := .free "int") rfl)
  g_isinstance := He.free_ok X G (c.fact 37 (f := .free "isinstance") rfl)
  g_len := He.free_ok X G (c.fact 38 (f := .free "len") rfl)
  g_list := He.free_ok X G (c.fact 39 (f := .free "list") rfl)
  g_max := He.free_ok X G (c.fact 40 (f := .free "max") rfl)
  g_range := He.free_ok X G (c.fact 41 (f := .free "range") rfl)
  g_repr := He.free_ok X G (c.fact 42 (f := .free "repr") rfl)
  g_sorted := He.free_ok X G (c.fact 43 (f := .free "sorted") rfl)
  g_sum := He.free_ok X G (c.fact 44 (f := .free "sum") rfl)
  g_tuple := He.free_ok X G (c.fact 45 (f := .free "tuple") rfl)
  c_WHOLE := He.int_ok X G (c.fact 46 (f := .int "WHOLE" 4) rfl)
theorem law_spec {K : PySem.W.Frag} (H : Hp) (a : Addr) (ns : List Int) (hl : ns.length ≤ 63) (ho : L2.Only H) (hS : LstOk K H a (ns.map V.int)) : spF K 1 φ_law [.ref a] H (fun v _ => v = .bl true) fun _ _ _ => False := script_spec ho hS (law_true ns hl)
end PD
open PySem PySem.W PySem.Calls PyProof.Rows
theorem PySem.Challenge.cw_tanhall_k02_whole_figures_put_together_f_holds : PySem.Challenge.rw_tanhall_k02_whole_figures_put_together_f.Holds := by
  w_on; o_law
  refine HandSHeadRun.head_any (r := OpenLaw.row PySem.Challenge.rw_tanhall_k02_whole_figures_put_together_f) (q := view (OpenLaw.row PySem.Challenge.rw_tanhall_k02_whole_figures_put_together_f).prog [39]) (H := PD.hkD) (ob := PD.obD) (M := 6000) (loose := PD.looseD) (d := HandSHeadRun.topDef (OpenLaw.row PySem.Challenge.rw_tanhall_k02_whole_figures_put_together_f).prog 39) (kwd := []) PD.obD_eq
    (by kernel_rfl) (fun s => by kernel_rfl) PD.runD (by kernel_rfl) (by kernel_rfl) (by kernel_rfl) (by rfl) (by first | assumption | decide +kernel) (by decide +kernel) ⟨rfl, rfl, rfl, rfl, rfl, by decide +kernel⟩ ?hw ?hc
  case hw => w_witness2
  case hc =>
    refine PD.walk_ofG (l := PySem.Challenge.rw_tanhall_k02_whole_figures_put_together_f) (n := 63) (k := 10) (x := "script") rfl (by decide) (by kernel_rfl) ⟨rfl, by decide, by decide⟩ ?F
    intro w mg fa h Y G hmg0
    obtain ⟨K, KX, c, c2⟩ := Y
    have hmg : mg ("law" : PySem.Str) = some (.ref fa) := by
      have e : (HandSHeadRun.topDef (OpenLaw.row PySem.Challenge.rw_tanhall_k02_whole_figures_put_together_f).prog 39).name = ("law" : PySem.Str) := by kernel_rfl
      rw [← e]
      exact hmg0
    exact PD.law_done KX hmg (fun H a ns hl ho hS => PD.law_spec H a ns hl ho hS) (fun base => PD.d_law (PD.world_of KX G c c2)) (fun _ _ _ _ _ _ us hl => match us, hl with | [_], _ => rfl)
end
