import PyProof.Rows.All
import Wide.All
import OpenK.AllK
import Wide.FinOn
import HandS.ForMost
import HandS.TupAny
import HandS.Wide
import HandS.Deep
import HandS.SortInts
import PyProof.P3In
import KE.GoesNew
import KE.GoesEnum
import KE.GoesMore
import HandS.SortOrd
import HandS.TupMul
import HandS.Style
import HandS.Iter
import HandS.WideMore
import KE.KDictDisplayH
import HandS.Defaults
import PySem.Challenge.RW_wheelsparted_k20_whole_elements_by_prime
import KE.KStateDown
import HandS.Base
import HandS.Call
import HandS.Ends
import HandS.More
import HandS.Words
import HandS.WordsExc
import HandS.Head0
import HandS.Head1
import HandS.Head2
import HandS.HeadEnd
import HandS.HeadHook1
import HandS.HeadHook2
set_option Elab.async false
set_option linter.all false
set_option maxRecDepth 100000
set_option maxHeartbeats 0
set_option synthInstance.maxHeartbeats 4000000
set_option synthInstance.maxSize 100000
/-! Written by an AI agent; no person has read it. Plain data over the hand layer (DL), the defs as plain functions (PG), the mathematics, the walk, the head. -/
namespace DL
open PySem L2

inductive D where
  | non | bl (b : Bool) | int (i : Int) | str (x : Str) | tup (xs : List D) | lst (xs : List D) | ro (xs : List D) | dic (t : Nat) (kvs : List (D × D))

def keyD : Key → D
  | .inl i => .int i
  | .inr x => .str x

mutual
def At (K : PySem.W.Frag) (F : Hp) : D → V → Prop
  | .non, v => v = .non
  | .bl b, v => v = .bl b
  | .int i, v => v = .int i
  | .str x, v => v = .str x
  | .tup ds, v => ∃ a vs, v = .ref a ∧ F a = some (.tup vs) ∧ AtL K F ds vs
  | .lst ds, v => ∃ a vs, v = .ref a ∧ F a = some (.lst vs) ∧ AtL K F ds vs
  | .ro ds, v => ∃ a vs, v = .ref a ∧ SqL K F a vs ∧ AtL K F ds vs
  | .dic t kvs, v => ∃ a, v = .ref a ∧ ((t = 0 ∧ ∃ ks, F a = some (.dK ks) ∧ KvK K F kvs ks) ∨ (t = 1 ∧ ∃ ks, F a = some (.dT ks) ∧ KvT K F kvs ks))
def AtL (K : PySem.W.Frag) (F : Hp) : List D → List V → Prop
  | [], vs => vs = []
  | d :: ds, vs => ∃ v r, vs = v :: r ∧ At K F d v ∧ AtL K F ds r
def KvK (K : PySem.W.Frag) (F : Hp) : List (D × D) → List (Key × V) → Prop
  | [], ks => ks = []
  | (k, d) :: r, ks => ∃ q v t, ks = (q, v) :: t ∧ k = keyD q ∧ At K F d v ∧ KvK K F r t
def KvT (K : PySem.W.Frag) (F : Hp) : List (D × D) → List (List Key × V) → Prop
  | [], ks => ks = []
  | (k, d) :: r, ks => ∃ q v t, ks = (q, v) :: t ∧ k = .tup (q.map keyD) ∧ At K F d v ∧ KvT K F r t
end

mutual
def D.imm : D → Bool
  | .lst _ => false
  | .ro _ => false
  | .dic _ _ => false
  | .tup xs => immL xs
  | _ => true
def immL : List D → Bool
  | [] => true
  | d :: ds => d.imm && immL ds
end

/-- tuples stay -/
def TSame (F F' : Hp) : Prop := ∀ a vs, F a = some (.tup vs) → F' a = some (.tup vs)
section
variable {K : PySem.W.Frag} {F F' : Hp}
theorem same_t (e : Same F F') {a : Addr} {xs : List V} (h : SqT K F a xs) : SqT K F' a xs := by
  rcases h with (h | ⟨o, h⟩) | h
  · exact .inl (.inl (e _ _ h))
  · exact .inl (.inr ⟨o, e _ _ h⟩)
  · exact .inr h
mutual
theorem At.mono (e : Same F F') : ∀ (d : D) (v : V), At K F d v → At K F' d v
  | .non, _, h => h
  | .bl _, _, h => h
  | .int _, _, h => h
  | .str _, _, h => h
  | .tup ds, v, h => by
    obtain ⟨a, vs, e1, h1, h2⟩ := h
    exact ⟨a, vs, e1, e _ _ h1, AtL.mono e ds vs h2⟩
  | .lst ds, v, h => by
    obtain ⟨a, vs, e1, h1, h2⟩ := h
    exact ⟨a, vs, e1, e _ _ h1, AtL.mono e ds vs h2⟩
  | .ro ds, v, h => by
    obtain ⟨a, vs, e1, h1, h2⟩ := h
    exact ⟨a, vs, e1, e.seq h1, AtL.mono e ds vs h2⟩
  | .dic t kvs, v, h => by
    obtain ⟨a, e1, h⟩ := h
    refine ⟨a, e1, ?_⟩
    rcases h with ⟨et, ks, h1, h2⟩ | ⟨et, ks, h1, h2⟩
    · exact .inl ⟨et, ks, e _ _ h1, KvK.mono e kvs ks h2⟩
    · exact .inr ⟨et, ks, e _ _ h1, KvT.mono e kvs ks h2⟩
theorem AtL.mono (e : Same F F') : ∀ (ds : List D) (vs : List V), AtL K F ds vs → AtL K F' ds vs
  | [], _, h => h
  | d :: ds, _, h => by
    obtain ⟨v, r, e1, h1, h2⟩ := h
    exact ⟨v, r, e1, At.mono e d v h1, AtL.mono e ds r h2⟩
theorem KvK.mono (e : Same F F') : ∀ (kvs : List (D × D)) (ks : List (Key × V)), KvK K F kvs ks → KvK K F' kvs ks
  | [], _, h => h
  | (k, d) :: r, _, h => by
    obtain ⟨q, v, t, e1, e2, h1, h2⟩ := h
    exact ⟨q, v, t, e1, e2, At.mono e d v h1, KvK.mono e r t h2⟩
theorem KvT.mono (e : Same F F') : ∀ (kvs : List (D × D)) (ks : List (List Key × V)), KvT K F kvs ks → KvT K F' kvs ks
  | [], _, h => h
  | (k, d) :: r, _, h => by
    obtain ⟨q, v, t, e1, e2, h1, h2⟩ := h
    exact ⟨q, v, t, e1, e2, At.mono e d v h1, KvT.mono e r t h2⟩
end
mutual
/-- data without lists leans on tuples alone -/
theorem At.imm (e : TSame F F') : ∀ (d : D) (v : V), d.imm = true → At K F d v → At K F' d v
  | .non, _, _, h => h
  | .bl _, _, _, h => h
  | .int _, _, _, h => h
  | .str _, _, _, h => h
  | .tup ds, v, m, h => by
    obtain ⟨a, vs, e1, h1, h2⟩ := h
    exact ⟨a, vs, e1, e _ _ h1, AtL.imm e ds vs m h2⟩
  | .lst ds, _, m, _ => by cases m
  | .ro ds, _, m, _ => by cases m
  | .dic _ kvs, _, m, _ => by cases m
theorem AtL.imm (e : TSame F F') : ∀ (ds : List D) (vs : List V), immL ds = true → AtL K F ds vs → AtL K F' ds vs
  | [], _, _, h => h
  | d :: ds, _, m, h => by
    obtain ⟨v, r, e1, h1, h2⟩ := h
    have m' : (d.imm && immL ds) = true := m
    rw [Bool.and_eq_true] at m'
    exact ⟨v, r, e1, At.imm e d v m'.1 h1, AtL.imm e ds r m'.2 h2⟩
end
theorem AtL.len : ∀ {ds : List D} {vs : List V}, AtL K F ds vs → ds.length = vs.length
  | [], _, h => by cases h; rfl
  | d :: ds, _, h => by
    obtain ⟨v, r, rfl, _, h2⟩ := h
    simp [AtL.len h2]
theorem AtL.get : ∀ {ds : List D} {vs : List V} {i : Nat} {d : D}, AtL K F ds vs → ds[i]? = some d → ∃ v, vs[i]? = some v ∧ At K F d v
  | [], _, _, _, _, e => by simp at e
  | d :: ds, _, 0, _, h, e => by
    obtain ⟨v, r, rfl, h1, _⟩ := h
    simp at e; subst e
    exact ⟨v, rfl, h1⟩
  | d :: ds, _, i + 1, _, h, e => by
    obtain ⟨v, r, rfl, _, h2⟩ := h
    obtain ⟨w, e1, e2⟩ := AtL.get (i := i) h2 (by simpa using e)
    exact ⟨w, by simpa using e1, e2⟩
theorem AtL.getV : ∀ {ds : List D} {vs : List V} {i : Nat} {v : V}, AtL K F ds vs → vs[i]? = some v → ∃ d, ds[i]? = some d ∧ At K F d v
  | [], _, _, _, h, e => by cases h; simp at e
  | d :: ds, _, 0, _, h, e => by
    obtain ⟨v, r, rfl, h1, _⟩ := h
    simp at e; subst e
    exact ⟨d, rfl, h1⟩
  | d :: ds, _, i + 1, _, h, e => by
    obtain ⟨v, r, rfl, _, h2⟩ := h
    obtain ⟨w, e1, e2⟩ := AtL.getV (i := i) h2 (by simpa using e)
    exact ⟨w, by simpa using e1, e2⟩
theorem AtL.app : ∀ {ds es : List D} {vs us : List V}, AtL K F ds vs → AtL K F es us → AtL K F (ds ++ es) (vs ++ us)
  | [], _, _, _, h, h' => by cases h; exact h'
  | d :: ds, _, _, _, h, h' => by
    obtain ⟨v, r, rfl, h1, h2⟩ := h
    exact ⟨v, r ++ _, rfl, h1, AtL.app h2 h'⟩
theorem AtL.one {d : D} {v : V} (h : At K F d v) : AtL K F [d] [v] := ⟨v, [], rfl, h, rfl⟩
theorem AtL.set : ∀ {ds : List D} {vs : List V} (i : Nat) {d : D} {v : V}, AtL K F ds vs → At K F d v → AtL K F (ds.set i d) (vs.set i v)
  | [], _, _, _, _, h, _ => by cases h; exact rfl
  | d :: ds, _, 0, _, _, h, h' => by
    obtain ⟨v, r, rfl, h1, h2⟩ := h
    exact ⟨_, r, rfl, h', h2⟩
  | d :: ds, _, i + 1, _, _, h, h' => by
    obtain ⟨v, r, rfl, h1, h2⟩ := h
    exact ⟨v, r.set i _, rfl, h1, AtL.set i h2 h'⟩
theorem AtL.take : ∀ (n : Nat) {ds : List D} {vs : List V}, AtL K F ds vs → AtL K F (ds.take n) (vs.take n)
  | 0, _, _, _ => rfl
  | n + 1, [], _, h => by cases h; exact rfl
  | n + 1, d :: ds, _, h => by
    obtain ⟨v, r, rfl, h1, h2⟩ := h
    exact ⟨v, _, rfl, h1, AtL.take n h2⟩
theorem AtL.drop : ∀ (n : Nat) {ds : List D} {vs : List V}, AtL K F ds vs → AtL K F (ds.drop n) (vs.drop n)
  | 0, _, _, h => h
  | n + 1, [], _, h => by cases h; exact rfl
  | n + 1, d :: ds, _, h => by
    obtain ⟨v, r, rfl, h1, h2⟩ := h
    exact AtL.drop n h2
theorem AtL.rev : ∀ {ds : List D} {vs : List V}, AtL K F ds vs → AtL K F ds.reverse vs.reverse
  | [], _, h => by cases h; exact rfl
  | d :: ds, _, h => by
    obtain ⟨v, r, rfl, h1, h2⟩ := h
    rw [List.reverse_cons, List.reverse_cons]
    exact AtL.app (AtL.rev h2) (AtL.one h1)
theorem AtL.ints : ∀ (ns : List Int), AtL K F (ns.map D.int) (ns.map V.int)
  | [] => rfl
  | n :: ns => ⟨_, _, rfl, rfl, AtL.ints ns⟩
theorem AtL.ints_inv : ∀ {ns : List Int} {vs : List V}, AtL K F (ns.map D.int) vs → vs = ns.map V.int
  | [], _, h => h
  | n :: ns, _, h => by
    obtain ⟨v, r, rfl, h1, h2⟩ := h
    have h1' : v = .int n := h1
    rw [h1', AtL.ints_inv h2]
    rfl
theorem AtL.bls_inv : ∀ {ns : List Bool} {vs : List V}, AtL K F (ns.map D.bl) vs → vs = ns.map V.bl
  | [], _, h => h
  | n :: ns, _, h => by
    obtain ⟨v, r, rfl, h1, h2⟩ := h
    have h1' : v = .bl n := h1
    rw [h1', AtL.bls_inv h2]
    rfl
theorem AtL.of_get : ∀ {ds : List D} {vs : List V}, ds.length = vs.length → (∀ (i : Nat) d v, ds[i]? = some d → vs[i]? = some v → At K F d v) → AtL K F ds vs
  | [], vs, h, _ => by
    cases vs with
    | nil => rfl
    | cons _ _ => simp at h
  | d :: ds, vs, h, g => by
    cases vs with
    | nil => simp at h
    | cons v r => exact ⟨v, r, rfl, g 0 d v rfl rfl, AtL.of_get (by simpa using h) fun i d' v' e1 e2 => g (i + 1) d' v' (by simpa using e1) (by simpa using e2)⟩
end

inductive Sl where
  | no | fz (d : D) | ol (xs : List D) | od (t : Nat) (kvs : List (D × D)) | pl
structure Pool where
  ns : List Int
  a : Int
  b : Int
  c : Int
  salt : Int
abbrev PL := Pool
/-- whether there is a pool, where it stands, where its script stands; what was there at the entry (but the pool) -/
structure Wd where
  u : Bool
  A : Addr
  sc : Addr
  B : Hp
def Sl.own : Sl → Bool
  | .ol _ => true
  | .od _ _ => true
  | _ => false

/-- an owned object's content -/
def ObjD (K : PySem.W.Frag) (F : Hp) (o : HO) : Sl → Prop
  | .ol xs => ∃ vs, o = .lst vs ∧ AtL K F xs vs
  | .od t kvs => (t = 0 ∧ ∃ ks, o = .dK ks ∧ KvK K F kvs ks) ∨ (t = 1 ∧ ∃ ks, o = .dT ks ∧ KvT K F kvs ks)
  | _ => False
def SlOk (K : PySem.W.Frag) (W : Wd) (F H : Hp) (v : Option (Option V)) : Sl → Prop
  | .no => True
  | .fz d => ∃ w, v = some (some w) ∧ At K F d w
  | .pl => v = some (some (.ref W.A)) ∧ W.u = true
  | s => ∃ a o, v = some (some (.ref a)) ∧ (W.u = true → a ≠ W.A) ∧ W.B a = none ∧ F a = none ∧ H a = some o ∧ ObjD K F o s
def PoolOk (K : PySem.W.Frag) (W : Wd) (F H : Hp) (P : PL) : Prop :=
  W.u = true → W.B W.A = none ∧ F W.A = none ∧ H W.A = some (.lst [.ref W.sc, .int P.a, .int P.b, .int P.c, .int P.salt]) ∧ F W.sc = some (.lst (P.ns.map .int)) ∧ W.sc ≠ W.A
structure R (K : PySem.W.Frag) (W : Wd) (F : Hp) (σ : St) (s : List Sl) (p : PL) (H : Hp) : Prop where
  exB : Same W.B H
  exF : Same F H
  slot : ∀ (i : Nat) x, s[i]? = some x → SlOk K W F H σ[i]? x
  dist : ∀ (i j : Nat) x y a, i ≠ j → s[i]? = some x → s[j]? = some y → x.own = true → y.own = true → σ[i]? = some (some (.ref a)) → σ[j]? = some (some (.ref a)) → False
  pool : PoolOk K W F H p
  len : σ.length = s.length

/-- what has come to be known, what the heap has grown by -/
structure Ext (F H F' H' : Hp) : Prop where
  ex : Same F F'
  fsh : ∀ a, H a ≠ none → F' a = F a
  grow : ∀ a, H a ≠ none → H' a ≠ none
theorem Ext.refl (F H : Hp) : Ext F H F H := ⟨Same.refl _, fun _ _ => rfl, fun _ h => h⟩
theorem Ext.trans {F H F1 H1 F2 H2 : Hp} (a : Ext F H F1 H1) (b : Ext F1 H1 F2 H2) : Ext F H F2 H2 :=
  ⟨a.ex.trans b.ex, fun x h => (b.fsh x (a.grow x h)).trans (a.fsh x h), fun x h => b.grow x (a.grow x h)⟩
theorem Ext.heap {F H H' : Hp} (g : ∀ a, H a ≠ none → H' a ≠ none) : Ext F H F H' := ⟨Same.refl _, fun _ _ => rfl, g⟩
theorem ne_none_of {H : Hp} {a : Addr} {o : HO} (h : H a = some o) : H a ≠ none := by rw [h]; exact fun z => nomatch z
theorem some_of_ne {H : Hp} {a : Addr} (h : H a ≠ none) : ∃ o, H a = some o := by
  cases e : H a with
  | none => exact absurd e h
  | some o => exact ⟨o, rfl⟩
theorem grow_upd {H : Hp} {p : Addr} {o : HO} : ∀ a, H a ≠ none → upd H p o a ≠ none := fun a h => by
  unfold upd
  split
  · exact fun z => nomatch z
  · exact h
theorem same_upd {H : Hp} {p : Addr} {o : HO} (h : H p = none) : Same H (upd H p o) := fun b x e => by
  rw [upd_ne (ne_of_none e h)]; exact e
/-- a new thing, known -/
theorem Ext.new {F H : Hp} {p : Addr} {o : HO} (hF : Same F H) (h : H p = none) : Ext F H (upd F p o) (upd H p o) := by
  have hf : F p = none := hF.free h
  exact ⟨same_upd hf, fun a ha => by rw [upd_ne]; exact fun z => ha (by rw [z]; exact h), grow_upd⟩
theorem upd_same2 {F H : Hp} {p : Addr} {o : HO} (hF : Same F H) (h : H p = none) : Same (upd F p o) (upd H p o) := fun b x e => by
  by_cases hb : b = p
  · subst hb; rw [upd_same] at e ⊢; exact e
  · rw [upd_ne hb] at e ⊢; exact hF b x e
theorem upd_over {F H : Hp} {p : Addr} {o : HO} (hF : Same F H) (h : F p = none) : Same F (upd H p o) := fun b x e => by
  rw [upd_ne (ne_of_none e h)]; exact hF b x e

section
variable {K : PySem.W.Frag} {W : Wd} {F F' H H' : Hp} {σ : St} {s : List Sl} {p : PL}
theorem ObjD.mono (e : Same F F') {o : HO} : ∀ {x : Sl}, ObjD K F o x → ObjD K F' o x
  | .ol xs, h => by
    obtain ⟨vs, e1, h⟩ := h
    exact ⟨vs, e1, AtL.mono e _ _ h⟩
  | .od t kvs, h => by
    rcases h with ⟨et, ks, e1, h⟩ | ⟨et, ks, e1, h⟩
    · exact .inl ⟨et, ks, e1, KvK.mono e _ _ h⟩
    · exact .inr ⟨et, ks, e1, KvT.mono e _ _ h⟩
  | .no, h => h
  | .fz _, h => h
  | .pl, h => h
theorem ObjD.own {o : HO} {x : Sl} (h : ObjD K F o x) : x.own = true := by
  cases x <;> first | rfl | exact h.elim
theorem slok_own {x : Sl} {v : Option (Option V)} (hx : x.own = true) (h : SlOk K W F H v x) :
    ∃ a o, v = some (some (.ref a)) ∧ (W.u = true → a ≠ W.A) ∧ W.B a = none ∧ F a = none ∧ H a = some o ∧ ObjD K F o x := by
  cases x <;> first | exact h | cases hx
theorem slok_of_own {x : Sl} {v : Option (Option V)} (hx : x.own = true)
    (h : ∃ a o, v = some (some (.ref a)) ∧ (W.u = true → a ≠ W.A) ∧ W.B a = none ∧ F a = none ∧ H a = some o ∧ ObjD K F o x) : SlOk K W F H v x := by
  cases x <;> first | exact h | cases hx
/-- the heap grew, nothing tracked has changed -/
theorem R.grow (r : R K W F σ s p H) (e : Ext F H F' H') (h1 : Same H H') (h2 : Same F' H') : R K W F' σ s p H' := by
  refine ⟨r.exB.trans h1, h2, fun i x hx => ?_, r.dist, ?_, r.len⟩
  · have q := r.slot i x hx
    cases x with
    | no => trivial
    | fz d =>
      obtain ⟨w, e1, h⟩ := q
      exact ⟨w, e1, At.mono e.ex _ _ h⟩
    | pl => exact q
    | ol xs =>
      obtain ⟨a, o, q1, q2, q3, q4, q5, q6⟩ := q
      exact ⟨a, o, q1, q2, q3, by rw [e.fsh a (ne_none_of q5)]; exact q4, h1 _ _ q5, ObjD.mono e.ex q6⟩
    | od t kvs =>
      obtain ⟨a, o, q1, q2, q3, q4, q5, q6⟩ := q
      exact ⟨a, o, q1, q2, q3, by rw [e.fsh a (ne_none_of q5)]; exact q4, h1 _ _ q5, ObjD.mono e.ex q6⟩
  · intro hu
    obtain ⟨q1, q2, q3, q4, q5⟩ := r.pool hu
    exact ⟨q1, by rw [e.fsh W.A (ne_none_of q3)]; exact q2, h1 _ _ q3, e.ex _ _ q4, q5⟩
/-- a new thing, known -/
theorem R.new {q : Addr} {o : HO} (r : R K W F σ s p H) (h : H q = none) : R K W (upd F q o) σ s p (upd H q o) :=
  r.grow (Ext.new r.exF h) (same_upd h) (upd_same2 r.exF h)
/-- a new thing, not known -/
theorem R.garb {q : Addr} {o : HO} (r : R K W F σ s p H) (h : H q = none) : R K W F σ s p (upd H q o) :=
  r.grow (Ext.heap grow_upd) (same_upd h) (upd_over r.exF (r.exF.free h))
/-- a slot is stored -/
theorem R.store (r : R K W F σ s p H) {i : Nat} {v : V} {d : D} (h : At K F d v) (hl : i < σ.length) : R K W F (σ.set i (some v)) (s.set i (.fz d)) p H := by
  refine ⟨r.exB, r.exF, fun j x hx => ?_, fun j k x y a hjk hx hy ox oy e1 e2 => ?_, r.pool, by simp [r.len]⟩
  · by_cases hj : i = j
    · subst hj
      have hi : i < s.length := by
        have := (List.getElem?_eq_some_iff.mp hx).1
        simpa using this
      rw [List.getElem?_set_self hi] at hx
      cases hx
      exact ⟨v, by rw [List.getElem?_set_self hl], h⟩
    · rw [List.getElem?_set_ne hj] at hx ⊢
      exact r.slot j x hx
  · have ne : ∀ {m : Nat} {z : Sl}, (s.set i (.fz d))[m]? = some z → z.own = true → i ≠ m := fun {m z} hz oz em => by
      subst em
      have hi : i < s.length := by
        have := (List.getElem?_eq_some_iff.mp hz).1
        simpa using this
      rw [List.getElem?_set_self hi] at hz
      cases hz
      cases oz
    have nj := ne hx ox
    have nk := ne hy oy
    rw [List.getElem?_set_ne nj] at hx e1
    rw [List.getElem?_set_ne nk] at hy e2
    exact r.dist j k x y a hjk hx hy ox oy e1 e2
/-- a slot is forgotten -/
theorem R.forget (r : R K W F σ s p H) (i : Nat) (v : Option V) : R K W F (σ.set i v) (s.set i .no) p H := by
  refine ⟨r.exB, r.exF, fun j x hx => ?_, fun j k x y a hjk hx hy ox oy e1 e2 => ?_, r.pool, by simp [r.len]⟩
  · by_cases hj : i = j
    · subst hj
      have hi : i < s.length := by
        have := (List.getElem?_eq_some_iff.mp hx).1
        simpa using this
      rw [List.getElem?_set_self hi] at hx
      cases hx
      trivial
    · rw [List.getElem?_set_ne hj] at hx ⊢
      exact r.slot j x hx
  · have ne : ∀ {m : Nat} {z : Sl}, (s.set i .no)[m]? = some z → z.own = true → i ≠ m := fun {m z} hz oz em => by
      subst em
      have hi : i < s.length := by
        have := (List.getElem?_eq_some_iff.mp hz).1
        simpa using this
      rw [List.getElem?_set_self hi] at hz
      cases hz
      cases oz
    have nj := ne hx ox
    have nk := ne hy oy
    rw [List.getElem?_set_ne nj] at hx e1
    rw [List.getElem?_set_ne nk] at hy e2
    exact r.dist j k x y a hjk hx hy ox oy e1 e2
/-- a new object of one's own at a slot -/
theorem R.ownNew (r : R K W F σ s p H) {i : Nat} {a : Addr} {o : HO} {x : Sl} (hl : i < σ.length) (hb : W.B a = none) (hf : F a = none) (ha : H a = some o) (ho : ObjD K F o x) (hA : W.u = true → a ≠ W.A)
    (hn : ∀ (j : Nat) y, s[j]? = some y → y.own = true → σ[j]? ≠ some (some (.ref a))) : R K W F (σ.set i (some (.ref a))) (s.set i x) p H := by
  have ox := ho.own
  refine ⟨r.exB, r.exF, fun j y hy => ?_, fun j k y z b hjk hy hz oy oz e1 e2 => ?_, r.pool, by simp [r.len]⟩
  · by_cases hj : i = j
    · subst hj
      have hi : i < s.length := by
        have := (List.getElem?_eq_some_iff.mp hy).1
        simpa using this
      rw [List.getElem?_set_self hi] at hy
      cases hy
      exact slok_of_own ox ⟨a, o, by rw [List.getElem?_set_self hl], hA, hb, hf, ha, ho⟩
    · rw [List.getElem?_set_ne hj] at hy ⊢
      exact r.slot j y hy
  · by_cases hj : i = j
    · subst hj
      rw [List.getElem?_set_self hl] at e1
      cases e1
      rw [List.getElem?_set_ne hjk] at hz e2
      exact hn k z hz oz e2
    · rw [List.getElem?_set_ne hj] at hy e1
      by_cases hk : i = k
      · subst hk
        rw [List.getElem?_set_self hl] at e2
        cases e2
        exact hn j y hy oy e1
      · rw [List.getElem?_set_ne hk] at hz e2
        exact r.dist j k y z b hjk hy hz oy oz e1 e2
/-- an owned object is changed -/
theorem R.ownSet (r : R K W F σ s p H) {i : Nat} {a : Addr} {o' : HO} {x x' : Sl} (hi : s[i]? = some x) (hx : x.own = true) (hv : σ[i]? = some (some (.ref a))) (ho : ObjD K F o' x') :
    R K W F σ (s.set i x') p (upd H a o') := by
  have q := slok_own hx (r.slot i x hi)
  obtain ⟨a', o, e, qA, qB, qF, qH, qo⟩ := q
  have ea : a' = a := by
    rw [hv] at e
    cases e
    rfl
  subst ea
  have ox := ho.own
  have hlt : i < s.length := (List.getElem?_eq_some_iff.mp hi).1
  refine ⟨upd_over r.exB qB, upd_over r.exF qF, fun j y hy => ?_, fun j k y z b hjk hy hz oy oz e1 e2 => ?_, ?_, by simp [r.len]⟩
  · by_cases hj : i = j
    · subst hj
      rw [List.getElem?_set_self hlt] at hy
      cases hy
      exact slok_of_own ox ⟨a', o', hv, qA, qB, qF, upd_same, ho⟩
    · rw [List.getElem?_set_ne hj] at hy
      have q := r.slot j y hy
      cases y with
      | no => trivial
      | fz d => exact q
      | pl => exact q
      | ol xs =>
        obtain ⟨b, ob, q1, q2, q3, q4, q5, q6⟩ := q
        have nb : b ≠ a' := fun z => by
          subst z
          exact r.dist i j x _ b hj hi hy hx rfl hv q1
        exact ⟨b, ob, q1, q2, q3, q4, by rw [upd_ne nb]; exact q5, q6⟩
      | od t kvs =>
        obtain ⟨b, ob, q1, q2, q3, q4, q5, q6⟩ := q
        have nb : b ≠ a' := fun z => by
          subst z
          exact r.dist i j x _ b hj hi hy hx rfl hv q1
        exact ⟨b, ob, q1, q2, q3, q4, by rw [upd_ne nb]; exact q5, q6⟩
  · have old : ∀ {m : Nat} {z : Sl}, (s.set i x')[m]? = some z → z.own = true → ∃ z', s[m]? = some z' ∧ z'.own = true := fun {m z} hz oz => by
      by_cases hm : i = m
      · subst hm
        exact ⟨x, hi, hx⟩
      · rw [List.getElem?_set_ne hm] at hz
        exact ⟨z, hz, oz⟩
    obtain ⟨y', hy', oy'⟩ := old hy oy
    obtain ⟨z', hz', oz'⟩ := old hz oz
    exact r.dist j k y' z' b hjk hy' hz' oy' oz' e1 e2
  · intro hu
    obtain ⟨q1, q2, q3, q4, q5⟩ := r.pool hu
    exact ⟨q1, q2, by rw [upd_ne (Ne.symm (qA hu))]; exact q3, q4, q5⟩
end

abbrev FE := List Sl → PL → Option (D × PL)
abbrev FT := List Sl → PL → Option (Bool × PL)
abbrev FA := List Sl → PL → Option (List D × PL)
inductive Out where
  | nx (s : List Sl) (p : PL) | rt (d : D) (p : PL) | bk (s : List Sl) (p : PL) | ct (s : List Sl) (p : PL)
abbrev FS := List Sl → PL → Option Out
abbrev FG := D → List Sl → Option (List Sl)

section
variable (K : PySem.W.Frag)
def SatE (te : TE) (f : FE) : Prop := ∀ W F σ s p H Q d p', R K W F σ s p H → f s p = some (d, p') →
  (∀ v F' H', Ext F H F' H' → R K W F' σ s p' H' → At K F' d v → Q v H') → te σ H Q
def SatT (tt : TT) (f : FT) : Prop := ∀ W F σ s p H (Q : Bool → Hp → Prop) b p', R K W F σ s p H → f s p = some (b, p') →
  (∀ F' H', Ext F H F' H' → R K W F' σ s p' H' → Q b H') → tt σ H Q
def SatA (ta : TA) (f : FA) : Prop := ∀ W F σ s p H (Q : List V → Hp → Prop) ds p', R K W F σ s p H → f s p = some (ds, p') →
  (∀ vs F' H', Ext F H F' H' → R K W F' σ s p' H' → AtL K F' ds vs → Q vs H') → ta σ H Q
/-- a new list -/
def SatL (te : TE) (f : FA) : Prop := ∀ W F σ s p H (Q : VK) ds p', R K W F σ s p H → f s p = some (ds, p') →
  (∀ a vs F' H', Ext F H F' H' → R K W F' σ s p' H' → H a = none → F' a = none → H' a = some (.lst vs) → AtL K F' ds vs → Q (.ref a) H') → te σ H Q
/-- what is walked -/
structure Wlk (J : It) (F : Hp) (ds : List D) : Prop where
  sz : ds.length ≤ sizeLine
  go : ∀ i H, Same F H → i < ds.length → J.go i H
  stop : ∀ H, Same F H → J.stop ds.length H
  yld : ∀ i H x H' F1, Same F F1 → Same F1 H → i < ds.length → J.yld i H x H' → ∃ F2 d, ds[i]? = some d ∧ Ext F1 H F2 H' ∧ Same H H' ∧ Same F2 H' ∧ At K F2 d x
def SatI (wi : TI) (f : FA) : Prop := ∀ W F σ s p H (Q : It → Hp → Prop) ds p', R K W F σ s p H → f s p = some (ds, p') →
  (∀ J F' H', Ext F H F' H' → R K W F' σ s p' H' → Wlk K J F' ds → Q J H') → wi σ H Q
/-- a target: the slots that it stores -/
def SatG (tg : TG) (idx : List Nat) (g : FG) : Prop := ∀ W F σ s p H (Q : St → Hp → Prop) d v s', R K W F σ s p H → At K F d v → g d s = some s' → σ.length = s.length →
  (∀ σ', σ'.length = s'.length → (∀ j, j ∉ idx → σ'[j]? = σ[j]?) → R K W F σ' s' p H → Q σ' H) → tg v σ H Q
def SatGs (tg : TGs) (idx : List Nat) (g : List D → List Sl → Option (List Sl)) : Prop := ∀ W F σ s p H (Q : St → Hp → Prop) ds vs s', R K W F σ s p H → AtL K F ds vs → g ds s = some s' → σ.length = s.length →
  (∀ σ', σ'.length = s'.length → (∀ j, j ∉ idx → σ'[j]? = σ[j]?) → R K W F σ' s' p H → Q σ' H) → tg vs σ H Q
/-- what a statement may change -/
structure ExtS (W : Wd) (F H F' H' : Hp) : Prop where
  ex : Same F F'
  fsh : ∀ a, (W.B a ≠ none ∨ (W.u = true ∧ a = W.A)) → F' a = F a
  grow : ∀ a, H a ≠ none → H' a ≠ none
/-- how a statement ends -/
def PostS (W : Wd) (F H : Hp) (Dn : Ends) : Out → Prop
  | .nx s p => ∀ σ' F' H', σ'.length = s.length → ExtS W F H F' H' → R K W F' σ' s p H' → Dn.nx σ' H'
  | .bk s p => ∀ σ' F' H', σ'.length = s.length → ExtS W F H F' H' → R K W F' σ' s p H' → Dn.bk σ' H'
  | .ct s p => ∀ σ' F' H', σ'.length = s.length → ExtS W F H F' H' → R K W F' σ' s p H' → Dn.ct σ' H'
  | .rt d p => ∀ v F' H', ExtS W F H F' H' → Same W.B H' → Same F' H' → At K F' d v → PoolOk K W F' H' p → Dn.rt v H'
def SatS (ts : TS) (g : FS) : Prop := ∀ W F σ s p H Dn o, R K W F σ s p H → σ.length = s.length → g s p = some o → PostS K W F H Dn o → ts Dn σ H
end
theorem ExtS.refl (W : Wd) (F H : Hp) : ExtS W F H F H := ⟨Same.refl _, fun _ _ => rfl, fun _ h => h⟩
theorem ExtS.trans {W : Wd} {F H F1 H1 F2 H2 : Hp} (a : ExtS W F H F1 H1) (b : ExtS W F1 H1 F2 H2) : ExtS W F H F2 H2 :=
  ⟨a.ex.trans b.ex, fun x h => (b.fsh x h).trans (a.fsh x h), fun x h => b.grow x (a.grow x h)⟩
theorem Ext.s {K : PySem.W.Frag} {W : Wd} {F H F1 H1 : Hp} {σ : St} {s : List Sl} {p : PL} (r : R K W F σ s p H) (e : Ext F H F1 H1) : ExtS W F H F1 H1 := by
  refine ⟨e.ex, fun a ha => e.fsh a ?_, e.grow⟩
  rcases ha with ha | ⟨hp, rfl⟩
  · obtain ⟨o, eo⟩ := some_of_ne ha
    exact ne_none_of (r.exB _ _ eo)
  · exact ne_none_of (r.pool hp).2.2.1
/-- the postcondition seen from an earlier state -/
theorem PostS.from {K : PySem.W.Frag} {W : Wd} {F H F1 H1 : Hp} {Dn : Ends} {o : Out} (e : ExtS W F H F1 H1) (h : PostS K W F H Dn o) : PostS K W F1 H1 Dn o := by
  cases o with
  | nx s p => exact fun σ' F' H' l e' r => h σ' F' H' l (e.trans e') r
  | bk s p => exact fun σ' F' H' l e' r => h σ' F' H' l (e.trans e') r
  | ct s p => exact fun σ' F' H' l e' r => h σ' F' H' l (e.trans e') r
  | rt d p => exact fun v F' H' e' => h v F' H' (e.trans e')
end DL

namespace DL
open PySem L2

section
variable (X : Cx)
def ED (e : Expr) (f : FE) : Prop := ∃ te, PE X e te ∧ SatE X.K te f
def LD (e : Expr) (f : FA) : Prop := ∃ te, PE X e te ∧ SatL X.K te f
def TD (e : Expr) (f : FT) : Prop := ∃ tt, PT X e tt ∧ SatT X.K tt f
def WD (e : Expr) (f : FT) : Prop := ∃ tt, PW X e tt ∧ SatT X.K tt f
def AD (es : List Expr) (f : FA) : Prop := ∃ ta, PA X es ta ∧ SatA X.K ta f
def ID (tg it : Expr) (f : FA) : Prop := ∃ wi, PI X tg it wi ∧ SatI X.K wi f
def GD (tg : Expr) (idx : List Nat) (g : FG) : Prop := ∃ t, PG X tg t ∧ SatG X.K t idx g
def GsD (tgs : List Expr) (idx : List Nat) (g : List D → List Sl → Option (List Sl)) : Prop := ∃ t, PGs X tgs t ∧ SatGs X.K t idx g
def SD (st : Stmt) (g : FS) : Prop := ∃ ts, PS X st ts ∧ SatS X.K ts g
def SSD (st : List Stmt) (g : FS) : Prop := ∃ ts, PSs X st ts ∧ SatS X.K ts g
end

def fV (i : Nat) : FE := fun s p => match s[i]? with
  | some (.fz d) => some (d, p)
  | _ => none
def fC (d : D) : FE := fun _ p => some (d, p)
def fBin (o : D → D → Option D) (fa fb : FE) : FE := fun s p => (fa s p).bind fun x => (fb s x.2).bind fun y => (o x.1 y.1).map fun z => (z, y.2)
def fUn (o : D → Option D) (fa : FE) : FE := fun s p => (fa s p).bind fun x => (o x.1).map fun z => (z, x.2)
def fNil : FA := fun _ p => some ([], p)
def fCons (fa : FE) (fr : FA) : FA := fun s p => (fa s p).bind fun x => (fr s x.2).map fun y => (x.1 :: y.1, y.2)
def fTup (fa : FA) : FE := fun s p => (fa s p).map fun x => (.tup x.1, x.2)
def fLst (fa : FA) : FE := fun s p => (fa s p).map fun x => (.lst x.1, x.2)
def fCall (S : List D → Option D) (fa : FA) : FE := fun s p => (fa s p).bind fun x => (S x.1).map fun z => (z, x.2)
def fCallL (S : List D → Option (List D)) (fa : FA) : FA := fun s p => (fa s p).bind fun x => (S x.1).map fun z => (z, x.2)
def fTst (fa : FE) : FT := fun s p => (fa s p).bind fun x => match x.1 with
  | .bl b => some (b, x.2)
  | _ => none
def fIf (t : FT) (fa fb : FE) : FE := fun s p => (t s p).bind fun x => if x.1 = true then fa s x.2 else fb s x.2
def fAnd (t u : FT) : FT := fun s p => (t s p).bind fun x => if x.1 = true then u s x.2 else some (false, x.2)
def fOr (t u : FT) : FT := fun s p => (t s p).bind fun x => if x.1 = true then some (true, x.2) else u s x.2
def fNot (t : FT) : FT := fun s p => (t s p).map fun x => (!x.1, x.2)
/-- a test as a value -/
def fB (t : FT) : FE := fun s p => (t s p).map fun x => (.bl x.1, x.2)

section
variable (K : PySem.W.Frag)
def SatR2 (r : R2) (o : D → D → Option D) : Prop := ∀ W F σ s p H x y dx dy dz (Q : VK), R K W F σ s p H → At K F dx x → At K F dy y → o dx dy = some dz →
  (∀ v F' H', Ext F H F' H' → R K W F' σ s p H' → At K F' dz v → Q v H') → r x y H Q
def SatR1 (r : V → Hp → VK → Prop) (o : D → Option D) : Prop := ∀ W F σ s p H x dx dz (Q : VK), R K W F σ s p H → At K F dx x → o dx = some dz →
  (∀ v F' H', Ext F H F' H' → R K W F' σ s p H' → At K F' dz v → Q v H') → r x H Q
def SatC (r : List V → Hp → VK → Prop) (S : List D → Option D) : Prop := ∀ W F σ s p H vs ds dz (Q : VK), R K W F σ s p H → AtL K F ds vs → S ds = some dz →
  (∀ v F' H', Ext F H F' H' → R K W F' σ s p H' → At K F' dz v → Q v H') → r vs H Q
def SatCL (r : List V → Hp → VK → Prop) (S : List D → Option (List D)) : Prop := ∀ W F σ s p H vs ds dz (Q : VK), R K W F σ s p H → AtL K F ds vs → S ds = some dz →
  (∀ a us F' H', Ext F H F' H' → R K W F' σ s p H' → H a = none → F' a = none → H' a = some (.lst us) → AtL K F' dz us → Q (.ref a) H') → r vs H Q
end

section
variable {X : Cx} {e a b c : Expr} {es : List Expr} {fa fb fe : FE} {ft fu : FT} {fs fr : FA} {pos : Pos}
theorem ED.pe {f : FE} (h : ED X e f) : ∃ te, PE X e te ∧ SatE X.K te f := h

theorem ed_v (i : Nat) {x : Str} (hN : X.N[i]? = some x := by rfl) (hv : Vis X.env.scope x := by first | exact Or.inl rfl | exact Or.inr (Or.inl rfl) | exact Or.inr (Or.inr rfl)) (hd : (x == ("__debug__" : Str)) = false := by decide)
    (hcd : (x == ("__classdict__" : Str)) = false := by decide) : ED X (.Name x pos) (fV i) := by
  refine ⟨_, pe_var hN hv hd hcd, fun W F σ s p H Q d p' r h q => ?_⟩
  unfold fV at h
  split at h
  · rename_i d' hs
    cases h
    obtain ⟨w, e1, h1⟩ := r.slot i _ hs
    exact ⟨w, e1, q w F H (Ext.refl _ _) r h1⟩
  · cases h
theorem ed_int {i j} : ED X (.Constant (.int i) j pos) (fC (.int i)) := ⟨_, pe_int, fun W F σ s p H Q d p' r h q => by cases h; exact q _ F H (Ext.refl _ _) r rfl⟩
theorem ed_bl {i j} : ED X (.Constant (.bool i) j pos) (fC (.bl i)) := ⟨_, pe_bl, fun W F σ s p H Q d p' r h q => by cases h; exact q _ F H (Ext.refl _ _) r rfl⟩
theorem ed_non {j} : ED X (.Constant .none j pos) (fC .non) := ⟨_, pe_non, fun W F σ s p H Q d p' r h q => by cases h; exact q _ F H (Ext.refl _ _) r rfl⟩
theorem ed_str {i j} : ED X (.Constant (.str i) j pos) (fC (.str i)) := ⟨_, pe_str, fun W F σ s p H Q d p' r h q => by cases h; exact q _ F H (Ext.refl _ _) r rfl⟩
/-- a module's constant that is an int -/
theorem ed_glob {x : Str} {i : Int} {u : Value} (hg : Gl X x) (hm : X.mg x = some u) (r : RelV (.int i) u) (hd : (x == ("__debug__" : Str)) = false := by decide) : ED X (.Name x pos) (fC (.int i)) :=
  ⟨_, pe_glob hg hm r hd, fun W F σ s p H Q d p' r h q => by cases h; exact q _ F H (Ext.refl _ _) r rfl⟩

theorem satE_op {r : R2} {o : D → D → Option D} {ta tb : TE} {K : PySem.W.Frag} (sa : SatE K ta fa) (sb : SatE K tb fb) (hr : SatR2 K r o) : SatE K (tOp r ta tb) (fBin o fa fb) := by
  intro W F σ s p H Q d p' r0 h q
  unfold fBin at h
  cases e1 : fa s p with
  | none => rw [e1] at h; cases h
  | some x =>
    rw [e1] at h
    change (fb s x.2).bind _ = _ at h
    cases e2 : fb s x.2 with
    | none => rw [e2] at h; cases h
    | some y =>
      rw [e2] at h
      change (o x.1 y.1).map _ = _ at h
      cases e3 : o x.1 y.1 with
      | none => rw [e3] at h; cases h
      | some z =>
        rw [e3] at h
        cases h
        refine sa W F σ s p H _ x.1 x.2 r0 e1 fun v F1 H1 x1 r1 a1 => ?_
        refine sb W F1 σ s x.2 H1 _ y.1 y.2 r1 e2 fun w F2 H2 x2 r2 a2 => ?_
        exact hr W F2 σ s y.2 H2 v w x.1 y.1 _ Q r2 (At.mono x2.ex _ _ a1) a2 e3 fun u F3 H3 x3 r3 a3 => q u F3 H3 ((x1.trans x2).trans x3) r3 a3
theorem ed_bin {op : Operator} {r : R2} {o : D → D → Option D} (ho : OpR X (binaryOp op) r) (hr : SatR2 X.K r o) (ha : ED X a fa) (hb : ED X b fb) : ED X (.BinOp a op b pos) (fBin o fa fb) := by
  obtain ⟨ta, pa, sa⟩ := ha
  obtain ⟨tb, pb, sb⟩ := hb
  exact ⟨_, pe_op ho pa pb, satE_op sa sb hr⟩
theorem ed_un {op : UnaryOp} {r : V → Hp → VK → Prop} {o : D → Option D} (ho : UnR X (unaryOp op) r) (hr : SatR1 X.K r o) (ha : ED X a fa) : ED X (.UnaryOp op a pos) (fUn o fa) := by
  obtain ⟨ta, pa, sa⟩ := ha
  refine ⟨_, pe_un ho pa, fun W F σ s p H Q d p' r0 h q => ?_⟩
  unfold fUn at h
  cases e1 : fa s p with
  | none => rw [e1] at h; cases h
  | some x =>
    rw [e1] at h
    change (o x.1).map _ = _ at h
    cases e3 : o x.1 with
    | none => rw [e3] at h; cases h
    | some z =>
      rw [e3] at h
      cases h
      refine sa W F σ s p H _ x.1 x.2 r0 e1 fun v F1 H1 x1 r1 a1 => ?_
      exact hr W F1 σ s x.2 H1 v x.1 _ Q r1 a1 e3 fun u F3 H3 x3 r3 a3 => q u F3 H3 (x1.trans x3) r3 a3

theorem ad_nil : AD X [] fNil := ⟨_, pa_nil, fun W F σ s p H Q ds p' r h q => by cases h; exact q [] F H (Ext.refl _ _) r rfl⟩
theorem ad_cons (ha : ED X e fe) (hr : AD X es fs) (hs : starEach (e :: es) X.env = (false, eval e X.env) :: starEach es X.env := by rfl) : AD X (e :: es) (fCons fe fs) := by
  obtain ⟨te, pe, se⟩ := ha
  obtain ⟨tr, pr, sr⟩ := hr
  refine ⟨_, pa_cons pe pr hs, fun W F σ s p H Q ds p' r0 h q => ?_⟩
  unfold fCons at h
  cases e1 : fe s p with
  | none => rw [e1] at h; cases h
  | some x =>
    rw [e1] at h
    change (fs s x.2).map _ = _ at h
    cases e2 : fs s x.2 with
    | none => rw [e2] at h; cases h
    | some y =>
      rw [e2] at h
      cases h
      refine se W F σ s p H _ x.1 x.2 r0 e1 fun v F1 H1 x1 r1 a1 => ?_
      exact sr W F1 σ s x.2 H1 _ y.1 y.2 r1 e2 fun vs F2 H2 x2 r2 a2 => q (v :: vs) F2 H2 (x1.trans x2) r2 ⟨v, vs, rfl, At.mono x2.ex _ _ a1, a2⟩

/-- the size of what is written -/
theorem satE_tup {K : PySem.W.Frag} {ta : TA} (n : Nat) (hn : n ≤ sizeLine) (hl : ∀ s p x, fs s p = some x → x.1.length = n) (sa : SatA K ta fs) : SatE K (tTup ta) (fTup fs) := by
  intro W F σ s p H Q d p' r0 h q
  unfold fTup at h
  cases e1 : fs s p with
  | none => rw [e1] at h; cases h
  | some x =>
    rw [e1] at h
    cases h
    refine sa W F σ s p H _ x.1 x.2 r0 e1 fun vs F1 H1 x1 r1 a1 => ⟨?_, fun t ht => ?_⟩
    · rw [← AtL.len a1, hl s p x e1]
      exact hn
    · have x2 : Ext F1 H1 (upd F1 t (.tup vs)) (upd H1 t (.tup vs)) := Ext.new r1.exF ht
      exact q _ _ _ (x1.trans x2) (r1.new ht) ⟨t, vs, rfl, upd_same, AtL.mono x2.ex _ _ a1⟩
theorem satL_lst {K : PySem.W.Frag} {ta : TA} (n : Nat) (hn : n ≤ sizeLine) (hl : ∀ s p x, fs s p = some x → x.1.length = n) (sa : SatA K ta fs) : SatL K (tLst ta) fs := by
  intro W F σ s p H Q d p' r0 e1 q
  refine sa W F σ s p H _ d p' r0 e1 fun vs F1 H1 x1 r1 a1 => ⟨?_, fun t ht => ?_⟩
  · rw [← AtL.len a1, hl s p _ e1]
    exact hn
  · have hf : F1 t = none := r1.exF.free ht
    refine q t vs F1 _ (x1.trans (Ext.heap grow_upd)) (r1.garb ht) ?_ hf upd_same a1
    cases h0 : H t with
    | none => rfl
    | some o => exact absurd ht (x1.grow t (ne_none_of h0))
/-- how many items are written -/
def Cnt (n : Nat) (f : FA) : Prop := ∀ s p x, f s p = some x → x.1.length = n
theorem cnt_nil : Cnt 0 fNil := fun s p x h => by cases h; rfl
theorem cnt_cons {n : Nat} (h : Cnt n fs) : Cnt (n + 1) (fCons fe fs) := fun s p x e => by
  unfold fCons at e
  cases e1 : fe s p with
  | none => rw [e1] at e; cases e
  | some y =>
    rw [e1] at e
    change (fs s y.2).map _ = _ at e
    cases e2 : fs s y.2 with
    | none => rw [e2] at e; cases e
    | some z =>
      rw [e2] at e
      cases e
      show z.1.length + 1 = n + 1
      rw [h s y.2 z e2]
theorem ed_tup {n : Nat} {x1} (ha : AD X es fs) (hc : Cnt n fs) (hn : n ≤ sizeLine := by show _ ≤ 16777216; decide) : ED X (.Tuple es x1 pos) (fTup fs) := by
  obtain ⟨ta, pa, sa⟩ := ha
  exact ⟨_, pe_tup pa, satE_tup n hn hc sa⟩
theorem ld_lst {n : Nat} (ha : AD X es fs) (hc : Cnt n fs) (hn : n ≤ sizeLine := by show _ ≤ 16777216; decide) : LD X (.List es pos) fs := by
  obtain ⟨ta, pa, sa⟩ := ha
  exact ⟨_, pe_lst pa, satL_lst n hn hc sa⟩
/-- a new list is a list -/
theorem satE_of {K : PySem.W.Frag} {te : TE} (h : SatL K te fs) : SatE K te (fLst fs) := by
  intro W F σ s p H Q d p' r0 e1 q
  unfold fLst at e1
  cases e2 : fs s p with
  | none => rw [e2] at e1; cases e1
  | some x =>
    rw [e2] at e1
    cases e1
    refine h W F σ s p H Q x.1 x.2 r0 e2 fun a vs F1 H1 x1 r1 h0 hf ha a1 => ?_
    have x2 : Ext F H (upd F1 a (.lst vs)) H1 := by
      refine ⟨x1.ex.trans (same_upd hf), fun b hb => ?_, x1.grow⟩
      rw [upd_ne (fun z => hb (by rw [z]; exact h0))]
      exact x1.fsh b hb
    have sm : Same (upd F1 a (.lst vs)) H1 := fun b o eb => by
      by_cases hb : b = a
      · subst hb; rw [upd_same] at eb; rw [ha]; exact eb
      · rw [upd_ne hb] at eb; exact r1.exF b o eb
    refine q _ _ H1 x2 ⟨r1.exB, sm, fun i y hy => ?_, r1.dist, fun hu => ?_, r1.len⟩ ⟨a, vs, rfl, upd_same, AtL.mono (same_upd hf) _ _ a1⟩
    · have z := r1.slot i y hy
      have nown : ∀ {b : Addr} {o : HO}, F b = none → H b = some o → (upd F1 a (.lst vs)) b = none := fun {b o} hb hb2 => by
        rw [upd_ne (fun z => by rw [z, h0] at hb2; cases hb2), x1.fsh b (ne_none_of hb2)]
        exact hb
      cases y with
      | no => trivial
      | fz d =>
        obtain ⟨w, z1, z2⟩ := z
        exact ⟨w, z1, At.mono (same_upd hf) _ _ z2⟩
      | pl => exact z
      | ol xs =>
        obtain ⟨b, o, z1, z2, z3, z4, z5, z6⟩ := slok_own rfl (r0.slot i _ hy)
        obtain ⟨b', o', y1, y2, y3, y4, y5, y6⟩ := z
        have eb : b' = b := by rw [z1] at y1; cases y1; rfl
        subst eb
        exact ⟨b', o', y1, y2, y3, nown z4 z5, y5, ObjD.mono (same_upd hf) y6⟩
      | od t kvs =>
        obtain ⟨b, o, z1, z2, z3, z4, z5, z6⟩ := slok_own rfl (r0.slot i _ hy)
        obtain ⟨b', o', y1, y2, y3, y4, y5, y6⟩ := z
        have eb : b' = b := by rw [z1] at y1; cases y1; rfl
        subst eb
        exact ⟨b', o', y1, y2, y3, nown z4 z5, y5, ObjD.mono (same_upd hf) y6⟩
    · obtain ⟨q1, q2, q3, q4, q5⟩ := r1.pool hu
      have hA : W.A ≠ a := fun z => by
        obtain ⟨_, _, w3, _⟩ := r0.pool hu
        rw [z, h0] at w3; cases w3
      exact ⟨q1, by rw [upd_ne hA]; exact q2, q3, same_upd hf _ _ q4, q5⟩
theorem ed_of (h : LD X e fs) : ED X e (fLst fs) := by
  obtain ⟨te, pe, se⟩ := h
  exact ⟨te, pe, satE_of se⟩

theorem satE_cb {K : PySem.W.Frag} {r : List V → Hp → VK → Prop} {S : List D → Option D} {ta : TA} (sa : SatA K ta fs) (hr : SatC K r S) : SatE K (tCB r ta) (fCall S fs) := by
  intro W F σ s p H Q d p' r0 h q
  unfold fCall at h
  cases e1 : fs s p with
  | none => rw [e1] at h; cases h
  | some x =>
    rw [e1] at h
    change (S x.1).map _ = _ at h
    cases e3 : S x.1 with
    | none => rw [e3] at h; cases h
    | some z =>
      rw [e3] at h
      cases h
      refine sa W F σ s p H _ x.1 x.2 r0 e1 fun vs F1 H1 x1 r1 a1 => ?_
      exact hr W F1 σ s x.2 H1 vs x.1 _ Q r1 a1 e3 fun u F3 H3 x3 r3 a3 => q u F3 H3 (x1.trans x3) r3 a3
theorem satL_cb {K : PySem.W.Frag} {r : List V → Hp → VK → Prop} {S : List D → Option (List D)} {ta : TA} (sa : SatA K ta fs) (hr : SatCL K r S) : SatL K (tCB r ta) (fCallL S fs) := by
  intro W F σ s p H Q d p' r0 h q
  unfold fCallL at h
  cases e1 : fs s p with
  | none => rw [e1] at h; cases h
  | some x =>
    rw [e1] at h
    change (S x.1).map _ = _ at h
    cases e3 : S x.1 with
    | none => rw [e3] at h; cases h
    | some z =>
      rw [e3] at h
      cases h
      refine sa W F σ s p H _ x.1 x.2 r0 e1 fun vs F1 H1 x1 r1 a1 => ?_
      refine hr W F1 σ s x.2 H1 vs x.1 _ Q r1 a1 e3 fun a us F3 H3 x3 r3 h0 hf ha a3 => q a us F3 H3 (x1.trans x3) r3 ?_ hf ha a3
      cases h9 : H a with
      | none => rfl
      | some o => exact absurd h0 (x1.grow a (ne_none_of h9))
theorem ed_cb {id : String} {x : Str} {ps : Pos} {r : List V → Hp → VK → Prop} {S : List D → Option D} (hc : CallR X (.builtin id) r) (hr : SatC X.K r S) (hg : Gl X x) (hm : X.mg x = none) (hv : bootBuiltins x = some (.builtin id)) (ha : AD X (e :: es) fs)
    (hn : x ≠ "__name__" := by decide) (hdb : (x == ("__debug__" : Str)) = false := by decide)
    (he : starEach (e :: es) X.env = (false, eval e X.env) :: starEach es X.env := by rfl) (hpl : (backTo pos (starEach es X.env)).any (·.1) = false := by rfl) : ED X (.Call (.Name x ps) (e :: es) [] pos) (fCall S fs) := by
  obtain ⟨ta, pa, sa⟩ := ha
  exact ⟨_, pe_callB hc hg hm hv pa hn hdb he hpl, satE_cb sa hr⟩
theorem ed_ct {T : String} {x : Str} {ps : Pos} {r : List V → Hp → VK → Prop} {S : List D → Option D} (hc : CallR X (.type T) r) (hr : SatC X.K r S) (hg : Gl X x) (hm : X.mg x = none) (hv : bootBuiltins x = some (.type T)) (ha : AD X (e :: es) fs)
    (hn : x ≠ "__name__" := by decide) (hdb : (x == ("__debug__" : Str)) = false := by decide)
    (he : starEach (e :: es) X.env = (false, eval e X.env) :: starEach es X.env := by rfl) (hpl : (backTo pos (starEach es X.env)).any (·.1) = false := by rfl) : ED X (.Call (.Name x ps) (e :: es) [] pos) (fCall S fs) := by
  obtain ⟨ta, pa, sa⟩ := ha
  exact ⟨_, pe_callTy hc hg hm hv pa hn hdb he hpl, satE_cb sa hr⟩
theorem ld_cb {id : String} {x : Str} {ps : Pos} {r : List V → Hp → VK → Prop} {S : List D → Option (List D)} (hc : CallR X (.builtin id) r) (hr : SatCL X.K r S) (hg : Gl X x) (hm : X.mg x = none) (hv : bootBuiltins x = some (.builtin id)) (ha : AD X (e :: es) fs)
    (hn : x ≠ "__name__" := by decide) (hdb : (x == ("__debug__" : Str)) = false := by decide)
    (he : starEach (e :: es) X.env = (false, eval e X.env) :: starEach es X.env := by rfl) (hpl : (backTo pos (starEach es X.env)).any (·.1) = false := by rfl) : LD X (.Call (.Name x ps) (e :: es) [] pos) (fCallL S fs) := by
  obtain ⟨ta, pa, sa⟩ := ha
  exact ⟨_, pe_callB hc hg hm hv pa hn hdb he hpl, satL_cb sa hr⟩
theorem ld_ct {T : String} {x : Str} {ps : Pos} {r : List V → Hp → VK → Prop} {S : List D → Option (List D)} (hc : CallR X (.type T) r) (hr : SatCL X.K r S) (hg : Gl X x) (hm : X.mg x = none) (hv : bootBuiltins x = some (.type T)) (ha : AD X (e :: es) fs)
    (hn : x ≠ "__name__" := by decide) (hdb : (x == ("__debug__" : Str)) = false := by decide)
    (he : starEach (e :: es) X.env = (false, eval e X.env) :: starEach es X.env := by rfl) (hpl : (backTo pos (starEach es X.env)).any (·.1) = false := by rfl) : LD X (.Call (.Name x ps) (e :: es) [] pos) (fCallL S fs) := by
  obtain ⟨ta, pa, sa⟩ := ha
  exact ⟨_, pe_callTy hc hg hm hv pa hn hdb he hpl, satL_cb sa hr⟩

theorem satT_of {K : PySem.W.Frag} {te : TE} (h : SatE K te fe) : SatT K (tB te) (fTst fe) := by
  intro W F σ s p H Q b p' r0 e1 q
  unfold fTst at e1
  cases e2 : fe s p with
  | none => rw [e2] at e1; cases e1
  | some x =>
    rw [e2] at e1
    change (match x.1 with | .bl b => some (b, x.2) | _ => none) = _ at e1
    refine h W F σ s p H _ x.1 x.2 r0 e2 fun v F1 H1 x1 r1 a1 => ?_
    split at e1
    · rename_i d b' hb
      cases e1
      rw [hb] at a1
      exact ⟨_, a1, q F1 H1 x1 r1⟩
    · cases e1
theorem td_val (h : ED X e fe) (he : ∀ whole, isTrue e X.env whole = (do let v ← whole; standAt e.pos; holding [v] (truthy v)) := by intro _; rfl) : TD X e (fTst fe) := by
  obtain ⟨te, pe, se⟩ := h
  exact ⟨_, pt_val pe he, satT_of se⟩
theorem td_cmp {op : CmpOp} {r : R2} {o : D → D → Option D} (ho : OpR X (compareOp op) r) (hr : SatR2 X.K r o) (ha : ED X a fa) (hb : ED X b fb) (hm : behindInMarks op b = false := by first | exact nomark _ | rfl) : TD X (.Compare a [op] [b] pos) (fTst (fBin o fa fb)) := by
  obtain ⟨ta, pa, sa⟩ := ha
  obtain ⟨tb, pb, sb⟩ := hb
  exact ⟨_, pt_cmpR ho pa pb hm, satT_of (satE_op sa sb hr)⟩
theorem ed_cmp {op : CmpOp} {r : R2} {o : D → D → Option D} (ho : OpR X (compareOp op) r) (hr : SatR2 X.K r o) (ha : ED X a fa) (hb : ED X b fb) (hm : behindInMarks op b = false := by first | exact nomark _ | rfl) : ED X (.Compare a [op] [b] pos) (fBin o fa fb) := by
  obtain ⟨ta, pa, sa⟩ := ha
  obtain ⟨tb, pb, sb⟩ := hb
  exact ⟨_, pe_cmpR ho pa pb hm, satE_op sa sb hr⟩
theorem satT_and {K : PySem.W.Frag} {t u : TT} (h : SatT K t ft) (h' : SatT K u fu) : SatT K (tAnd t u) (fAnd ft fu) := by
  intro W F σ s p H Q b p' r0 e1 q
  unfold fAnd at e1
  cases e2 : ft s p with
  | none => rw [e2] at e1; cases e1
  | some x =>
    rw [e2] at e1
    change (if x.1 = true then fu s x.2 else some (false, x.2)) = _ at e1
    refine h W F σ s p H _ x.1 x.2 r0 e2 fun F1 H1 x1 r1 => ?_
    by_cases hx : x.1 = true
    · rw [if_pos hx] at e1 ⊢
      exact h' W F1 σ s x.2 H1 _ b p' r1 e1 fun F2 H2 x2 r2 => q F2 H2 (x1.trans x2) r2
    · rw [if_neg hx] at e1 ⊢
      cases e1
      exact q F1 H1 x1 r1
theorem satT_or {K : PySem.W.Frag} {t u : TT} (h : SatT K t ft) (h' : SatT K u fu) : SatT K (tOr t u) (fOr ft fu) := by
  intro W F σ s p H Q b p' r0 e1 q
  unfold fOr at e1
  cases e2 : ft s p with
  | none => rw [e2] at e1; cases e1
  | some x =>
    rw [e2] at e1
    change (if x.1 = true then some (true, x.2) else fu s x.2) = _ at e1
    refine h W F σ s p H _ x.1 x.2 r0 e2 fun F1 H1 x1 r1 => ?_
    by_cases hx : x.1 = true
    · rw [if_pos hx] at e1 ⊢
      cases e1
      exact q F1 H1 x1 r1
    · rw [if_neg hx] at e1 ⊢
      exact h' W F1 σ s x.2 H1 _ b p' r1 e1 fun F2 H2 x2 r2 => q F2 H2 (x1.trans x2) r2
theorem wd_and1 (ha : TD X a ft) : WD X (.BoolOp .And [a] pos) ft := by
  obtain ⟨t, pt, st⟩ := ha
  exact ⟨_, pw_and1 pt, st⟩
theorem wd_or1 (ha : TD X a ft) : WD X (.BoolOp .Or [a] pos) ft := by
  obtain ⟨t, pt, st⟩ := ha
  exact ⟨_, pw_or1 pt, st⟩
theorem wd_and (ha : TD X a ft) (hb : WD X (.BoolOp .And (b :: es) pos) fu) : WD X (.BoolOp .And (a :: b :: es) pos) (fAnd ft fu) := by
  obtain ⟨t, pt, st⟩ := ha
  obtain ⟨u, pu, su⟩ := hb
  exact ⟨_, pw_and pt pu, satT_and st su⟩
theorem wd_or (ha : TD X a ft) (hb : WD X (.BoolOp .Or (b :: es) pos) fu) : WD X (.BoolOp .Or (a :: b :: es) pos) (fOr ft fu) := by
  obtain ⟨t, pt, st⟩ := ha
  obtain ⟨u, pu, su⟩ := hb
  exact ⟨_, pw_or pt pu, satT_or st su⟩
theorem td_w (h : WD X e ft) : TD X e ft := by
  obtain ⟨t, pt, st⟩ := h
  exact ⟨_, pt.pt, st⟩
theorem td_not (ha : TD X a ft) : TD X (.UnaryOp .Not a pos) (fNot ft) := by
  obtain ⟨t, pt, st⟩ := ha
  refine ⟨_, pt_not pt, fun W F σ s p H Q b p' r0 e1 q => ?_⟩
  unfold fNot at e1
  cases e2 : ft s p with
  | none => rw [e2] at e1; cases e1
  | some x =>
    rw [e2] at e1
    cases e1
    exact st W F σ s p H _ x.1 x.2 r0 e2 fun F1 H1 x1 r1 => q F1 H1 x1 r1
theorem ed_if (hc : TD X c ft) (ha : ED X a fa) (hb : ED X b fb) : ED X (.IfExp c a b pos) (fIf ft fa fb) := by
  obtain ⟨t, pt, st⟩ := hc
  obtain ⟨ta, pa, sa⟩ := ha
  obtain ⟨tb, pb, sb⟩ := hb
  refine ⟨_, pe_ifExp pt pa pb, fun W F σ s p H Q d p' r0 e1 q => ?_⟩
  unfold fIf at e1
  cases e2 : ft s p with
  | none => rw [e2] at e1; cases e1
  | some x =>
    rw [e2] at e1
    change (if x.1 = true then fa s x.2 else fb s x.2) = _ at e1
    refine st W F σ s p H _ x.1 x.2 r0 e2 fun F1 H1 x1 r1 => ?_
    by_cases hx : x.1 = true
    · rw [if_pos hx] at e1 ⊢
      exact sa W F1 σ s x.2 H1 _ d p' r1 e1 fun v F2 H2 x2 r2 a2 => q v F2 H2 (x1.trans x2) r2 a2
    · rw [if_neg hx] at e1 ⊢
      exact sb W F1 σ s x.2 H1 _ d p' r1 e1 fun v F2 H2 x2 r2 a2 => q v F2 H2 (x1.trans x2) r2 a2
/-- and, or, not as values -/
def fAndV (fa fb : FE) : FE := fun s p => (fa s p).bind fun x => match x.1 with
  | .bl true => fb s x.2
  | .bl false => some (.bl false, x.2)
  | _ => none
def fOrV (fa fb : FE) : FE := fun s p => (fa s p).bind fun x => match x.1 with
  | .bl false => fb s x.2
  | .bl true => some (.bl true, x.2)
  | _ => none
def fNotV (fa : FE) : FE := fun s p => (fa s p).bind fun x => match x.1 with
  | .bl b => some (.bl (!b), x.2)
  | _ => none
theorem ed_one {op} (h : ED X a fa) : ED X (.BoolOp op [a] pos) fa := by
  obtain ⟨t, pt, st⟩ := h
  exact ⟨_, pe_one pt, st⟩
theorem ed_and (ha : ED X a fa) (hb : ED X (.BoolOp .And (b :: es) pos) fb) : ED X (.BoolOp .And (a :: b :: es) pos) (fAndV fa fb) := by
  obtain ⟨ta, pa, sa⟩ := ha
  obtain ⟨tb, pb, sb⟩ := hb
  refine ⟨_, pe_and pa pb, fun W F σ s p H Q d p' r0 e1 q => ?_⟩
  unfold fAndV at e1
  cases e2 : fa s p with
  | none => rw [e2] at e1; cases e1
  | some x =>
    rw [e2] at e1
    change (match x.1 with | .bl true => fb s x.2 | .bl false => some (.bl false, x.2) | _ => none) = _ at e1
    refine sa W F σ s p H _ x.1 x.2 r0 e2 fun v F1 H1 x1 r1 a1 => ?_
    split at e1
    · rename_i _ hb
      rw [hb] at a1
      exact ⟨true, a1, by rw [if_pos rfl]; exact sb W F1 σ s x.2 H1 _ d p' r1 e1 fun v F2 H2 x2 r2 a2 => q v F2 H2 (x1.trans x2) r2 a2⟩
    · rename_i _ hb
      rw [hb] at a1
      cases e1
      exact ⟨false, a1, by rw [if_neg (by decide)]; exact q _ F1 H1 x1 r1 rfl⟩
    · cases e1
theorem ed_or (ha : ED X a fa) (hb : ED X (.BoolOp .Or (b :: es) pos) fb) : ED X (.BoolOp .Or (a :: b :: es) pos) (fOrV fa fb) := by
  obtain ⟨ta, pa, sa⟩ := ha
  obtain ⟨tb, pb, sb⟩ := hb
  refine ⟨_, pe_or pa pb, fun W F σ s p H Q d p' r0 e1 q => ?_⟩
  unfold fOrV at e1
  cases e2 : fa s p with
  | none => rw [e2] at e1; cases e1
  | some x =>
    rw [e2] at e1
    change (match x.1 with | .bl false => fb s x.2 | .bl true => some (.bl true, x.2) | _ => none) = _ at e1
    refine sa W F σ s p H _ x.1 x.2 r0 e2 fun v F1 H1 x1 r1 a1 => ?_
    split at e1
    · rename_i _ hb
      rw [hb] at a1
      exact ⟨false, a1, by rw [if_neg (by decide)]; exact sb W F1 σ s x.2 H1 _ d p' r1 e1 fun v F2 H2 x2 r2 a2 => q v F2 H2 (x1.trans x2) r2 a2⟩
    · rename_i _ hb
      rw [hb] at a1
      cases e1
      exact ⟨true, a1, by rw [if_pos rfl]; exact q _ F1 H1 x1 r1 rfl⟩
    · cases e1
theorem ed_not (ha : ED X a fa) : ED X (.UnaryOp .Not a pos) (fNotV fa) := by
  obtain ⟨ta, pa, sa⟩ := ha
  refine ⟨_, pe_not pa, fun W F σ s p H Q d p' r0 e1 q => ?_⟩
  unfold fNotV at e1
  cases e2 : fa s p with
  | none => rw [e2] at e1; cases e1
  | some x =>
    rw [e2] at e1
    change (match x.1 with | D.bl b => some (D.bl (!b), x.2) | _ => none) = _ at e1
    refine sa W F σ s p H _ x.1 x.2 r0 e2 fun v F1 H1 x1 r1 a1 => ?_
    split at e1
    · rename_i _ b hb
      rw [hb] at a1
      cases e1
      exact ⟨b, a1, q _ F1 H1 x1 r1 rfl⟩
    · cases e1
end
end DL

namespace DL
open PySem L2

mutual
def D.py : D → PyData
  | .non => .none
  | .bl b => .bool b
  | .int i => .int i
  | .str x => .str x
  | .tup xs => .tuple (pyL xs)
  | .lst xs => .list (pyL xs)
  | .ro xs => .list (pyL xs)
  | .dic _ _ => .dict []
def pyL : List D → List PyData
  | [] => []
  | d :: ds => d.py :: pyL ds
end
mutual
/-- at most n deep, no dicts -/
def D.fine : Nat → D → Bool
  | _, .non => true
  | _, .bl _ => true
  | _, .int _ => true
  | _, .str x => PyData.strOk x
  | n, .tup xs => match n with
    | 0 => false
    | n + 1 => fineL n xs
  | n, .lst xs => match n with
    | 0 => false
    | n + 1 => fineL n xs
  | n, .ro xs => match n with
    | 0 => false
    | n + 1 => fineL n xs
  | _, .dic _ _ => false
def fineL : Nat → List D → Bool
  | _, [] => true
  | n, d :: ds => D.fine n d && fineL n ds
end
mutual
theorem fine_py : ∀ (d : D) (n : Nat), d.fine n = true → d.py.canLay0 = true ∧ d.py.depth ≤ n
  | .non, n, _ => ⟨rfl, by simp [D.py, PyData.depth]⟩
  | .bl _, n, _ => ⟨rfl, by simp [D.py, PyData.depth]⟩
  | .int _, n, _ => ⟨rfl, by simp [D.py, PyData.depth]⟩
  | .str x, n, h => ⟨by simpa [D.py, PyData.canLay0, D.fine] using h, by simp [D.py, PyData.depth]⟩
  | .tup xs, 0, h => by simp [D.fine] at h
  | .tup xs, n + 1, h => by
    have h' := fine_pyL xs n (by simpa [D.fine] using h)
    exact ⟨by simpa [D.py, PyData.canLay0] using h'.1, by simpa [D.py, PyData.depth] using h'.2⟩
  | .lst xs, 0, h => by simp [D.fine] at h
  | .lst xs, n + 1, h => by
    have h' := fine_pyL xs n (by simpa [D.fine] using h)
    exact ⟨by simpa [D.py, PyData.canLay0] using h'.1, by simpa [D.py, PyData.depth] using h'.2⟩
  | .ro xs, 0, h => by simp [D.fine] at h
  | .ro xs, n + 1, h => by
    have h' := fine_pyL xs n (by simpa [D.fine] using h)
    exact ⟨by simpa [D.py, PyData.canLay0] using h'.1, by simpa [D.py, PyData.depth] using h'.2⟩
  | .dic _ _, n, h => by simp [D.fine] at h
theorem fine_pyL : ∀ (ds : List D) (n : Nat), fineL n ds = true → PyData.canLayAll0 (pyL ds) = true ∧ PyData.depthAll (pyL ds) ≤ n
  | [], n, _ => ⟨rfl, by simp [pyL, PyData.depthAll]⟩
  | d :: ds, n, h => by
    have h' : d.fine n = true ∧ fineL n ds = true := by simpa [fineL] using h
    have h1 := fine_py d n h'.1
    have h2 := fine_pyL ds n h'.2
    refine ⟨by simp [pyL, PyData.canLayAll0, h1.1, h2.1], ?_⟩
    simp only [pyL, PyData.depthAll]
    omega
end
theorem shaped_of {d : D} (h : d.fine 60 = true) : SeqAt.shaped d.py = true := by
  have h1 := fine_py d 60 h
  show (d.py.canLay0 && decide (d.py.depth ≤ 64)) = true
  rw [Bool.and_eq_true]
  exact ⟨h1.1, decide_eq_true (by omega)⟩
section
variable {K : PySem.W.Frag} {F : Hp}
mutual
theorem dp_of : ∀ (d : D) (v : V) (n : Nat), d.fine n = true → At K F d v → Dp K F v d.py
  | .non, _, _, _, h => by cases h; exact .non
  | .bl b, _, _, _, h => by cases h; exact .bl b
  | .int i, _, _, _, h => by cases h; exact .int i
  | .str x, _, _, _, h => by cases h; exact .str x
  | .tup ds, _, 0, f, _ => by simp [D.fine] at f
  | .tup ds, _, n + 1, f, h => by
    obtain ⟨a, vs, rfl, h1, h2⟩ := h
    exact .tup (SqT.of h1) (dpL_of ds vs n (by simpa [D.fine] using f) h2)
  | .lst ds, _, 0, f, _ => by simp [D.fine] at f
  | .lst ds, _, n + 1, f, h => by
    obtain ⟨a, vs, rfl, h1, h2⟩ := h
    exact .lst (SqL.of h1) (dpL_of ds vs n (by simpa [D.fine] using f) h2)
  | .ro ds, _, 0, f, _ => by simp [D.fine] at f
  | .ro ds, _, n + 1, f, h => by
    obtain ⟨a, vs, rfl, h1, h2⟩ := h
    exact .lst h1 (dpL_of ds vs n (by simpa [D.fine] using f) h2)
  | .dic _ _, _, _, f, _ => by simp [D.fine] at f
theorem dpL_of : ∀ (ds : List D) (vs : List V) (n : Nat), fineL n ds = true → AtL K F ds vs → DpAll K F vs (pyL ds)
  | [], _, _, _, h => by cases h; exact .nil
  | d :: ds, _, n, f, h => by
    obtain ⟨v, r, rfl, h1, h2⟩ := h
    have f' : d.fine n = true ∧ fineL n ds = true := by simpa [fineL] using f
    exact .cons (dp_of d v n f'.1 h1) (dpL_of ds r n f'.2 h2)
end
end
/-- Python's == on data -/
def deq (a b : D) : Bool := PyData.eqv a.py b.py
def eqD (a b : D) : Option D := if a.fine 60 = true ∧ b.fine 60 = true then some (.bl (deq a b)) else none
def neD (a b : D) : Option D := if a.fine 60 = true ∧ b.fine 60 = true then some (.bl (!deq a b)) else none
def inD (a : D) : D → Option D
  | .tup ys => if a.fine 60 = true ∧ fineL 59 ys = true then some (.bl (ys.any fun y => deq y a)) else none
  | .lst ys => if a.fine 60 = true ∧ fineL 59 ys = true then some (.bl (ys.any fun y => deq y a)) else none
  | _ => none
def ninD (a b : D) : Option D := match inD a b with
  | some (.bl x) => some (.bl (!x))
  | _ => none
theorem any_py (a : D) : ∀ ys : List D, ((pyL ys).any fun z => PyData.eqv z a.py) = ys.any fun y => deq y a
  | [] => rfl
  | y :: ys => by simp only [pyL, List.any_cons, any_py a ys, deq]

section
variable {X : Cx} {K : PySem.W.Frag}
theorem sat_eq : SatR2 K (rEqD K) eqD := by
  intro W F σ s p H x y dx dy dz Q r ax ay h q
  unfold eqD at h
  split at h
  · rename_i f
    cases h
    exact ⟨dx.py, dy.py, dp_of dx x 60 f.1 (At.mono r.exF _ _ ax), dp_of dy y 60 f.2 (At.mono r.exF _ _ ay), shaped_of f.1, shaped_of f.2, q _ F H (Ext.refl _ _) r rfl⟩
  · cases h
theorem sat_ne : SatR2 K (rNeD K) neD := by
  intro W F σ s p H x y dx dy dz Q r ax ay h q
  unfold neD at h
  split at h
  · rename_i f
    cases h
    exact ⟨dx.py, dy.py, dp_of dx x 60 f.1 (At.mono r.exF _ _ ax), dp_of dy y 60 f.2 (At.mono r.exF _ _ ay), shaped_of f.1, shaped_of f.2, q _ F H (Ext.refl _ _) r rfl⟩
  · cases h
/-- x in l, l a list or a tuple -/
def rInA (K : PySem.W.Frag) (neg : Bool) : R2 := fun x y H Q => ∃ d e ds, Dp K H x d ∧ Dp K H y e ∧ (e = .list ds ∨ e = .tuple ds) ∧ SeqAt.shaped d = true ∧ SeqAt.shaped e = true ∧ Q (.bl (if neg = true then !(ds.any fun z => PyData.eqv z d) else ds.any fun z => PyData.eqv z d)) H
theorem op_inA (hu : X.A.units + 65 < cLine) : OpR X (compareOp .In) (rInA X.K false) := by
  intro pins s σ H x y v u Q I rx ry h
  obtain ⟨d, e, ds, hd, he, hk, sd, se, q⟩ := h
  obtain ⟨as, r1⟩ := Dp.reads I d x v hd rx
  obtain ⟨bs, r2⟩ := Dp.reads I e y u he ry
  rcases hk with rfl | rfl
  · exact SeqAt.in_list_reads r2 r1 (SeqAt.canLay_of_shaped se) (SeqAt.canLay_of_shaped sd) (PyProof.Rows.room_in_shaped sd hu) ⟨.bl _, H, I, rfl, q⟩
  · exact SeqAt.in_tuple_reads r2 r1 (SeqAt.canLay_of_shaped se) (SeqAt.canLay_of_shaped sd) (PyProof.Rows.room_in_shaped sd hu) ⟨.bl _, H, I, rfl, q⟩
theorem op_ninA (hu : X.A.units + 65 < cLine) : OpR X (compareOp .NotIn) (rInA X.K true) := by
  intro pins s σ H x y v u Q I rx ry h
  obtain ⟨d, e, ds, hd, he, hk, sd, se, q⟩ := h
  obtain ⟨as, r1⟩ := Dp.reads I d x v hd rx
  obtain ⟨bs, r2⟩ := Dp.reads I e y u he ry
  rcases hk with rfl | rfl
  · exact SeqAt.notIn_list_reads r2 r1 (SeqAt.canLay_of_shaped se) (SeqAt.canLay_of_shaped sd) (PyProof.Rows.room_in_shaped sd hu) ⟨.bl _, H, I, rfl, q⟩
  · exact SeqAt.notIn_tuple_reads r2 r1 (SeqAt.canLay_of_shaped se) (SeqAt.canLay_of_shaped sd) (PyProof.Rows.room_in_shaped sd hu) ⟨.bl _, H, I, rfl, q⟩
theorem sat_in : SatR2 K (rInA K false) inD := by
  intro W F σ s p H x y dx dy dz Q r ax ay h q
  cases dy with
  | tup ys =>
    unfold inD at h
    simp only at h
    split at h
    · rename_i f
      cases h
      have fy : (D.tup ys).fine 60 = true := by simpa [D.fine] using f.2
      refine ⟨dx.py, (D.tup ys).py, pyL ys, dp_of dx x 60 f.1 (At.mono r.exF _ _ ax), dp_of _ y 60 fy (At.mono r.exF _ _ ay), .inr rfl, shaped_of f.1, shaped_of fy, ?_⟩
      rw [if_neg (by decide), any_py]
      exact q _ F H (Ext.refl _ _) r rfl
    · cases h
  | lst ys =>
    unfold inD at h
    simp only at h
    split at h
    · rename_i f
      cases h
      have fy : (D.lst ys).fine 60 = true := by simpa [D.fine] using f.2
      refine ⟨dx.py, (D.lst ys).py, pyL ys, dp_of dx x 60 f.1 (At.mono r.exF _ _ ax), dp_of _ y 60 fy (At.mono r.exF _ _ ay), .inl rfl, shaped_of f.1, shaped_of fy, ?_⟩
      rw [if_neg (by decide), any_py]
      exact q _ F H (Ext.refl _ _) r rfl
    · cases h
  | _ => cases h
theorem sat_nin : SatR2 K (rInA K true) ninD := by
  intro W F σ s p H x y dx dy dz Q r ax ay h q
  cases dy with
  | tup ys =>
    unfold ninD inD at h
    simp only at h
    by_cases f : dx.fine 60 = true ∧ fineL 59 ys = true
    · rw [if_pos f] at h
      cases h
      have fy : (D.tup ys).fine 60 = true := by simpa [D.fine] using f.2
      refine ⟨dx.py, (D.tup ys).py, pyL ys, dp_of dx x 60 f.1 (At.mono r.exF _ _ ax), dp_of _ y 60 fy (At.mono r.exF _ _ ay), .inr rfl, shaped_of f.1, shaped_of fy, ?_⟩
      rw [if_pos rfl, any_py]
      exact q _ F H (Ext.refl _ _) r rfl
    · rw [if_neg f] at h
      cases h
  | lst ys =>
    unfold ninD inD at h
    simp only at h
    by_cases f : dx.fine 60 = true ∧ fineL 59 ys = true
    · rw [if_pos f] at h
      cases h
      have fy : (D.lst ys).fine 60 = true := by simpa [D.fine] using f.2
      refine ⟨dx.py, (D.lst ys).py, pyL ys, dp_of dx x 60 f.1 (At.mono r.exF _ _ ax), dp_of _ y 60 fy (At.mono r.exF _ _ ay), .inl rfl, shaped_of f.1, shaped_of fy, ?_⟩
      rw [if_pos rfl, any_py]
      exact q _ F H (Ext.refl _ _) r rfl
    · rw [if_neg f] at h
      cases h
  | _ => cases h

theorem OpR.or2 {f : Value → Value → Sem Value} {r r' : R2} (h : OpR X f r) (h' : OpR X f r') : OpR X f (fun x y H Q => r x y H Q ∨ r' x y H Q) := OpR.or h h'
def addD : D → D → Option D
  | .int a, .int b => some (.int (a + b))
  | .tup xs, .tup ys => if xs.length + ys.length ≤ 1000000 then some (.tup (xs ++ ys)) else none
  | _, _ => none
def rAddD (K : PySem.W.Frag) : R2 := fun x y H Q => rI0 (fun i j => .int (i + j)) x y H Q ∨ rCatA K x y H Q
theorem op_addD : OpR X (binaryOp .Add) (rAddD X.K) := OpR.or op_add op_catA
theorem line6 {n : Nat} (h : n ≤ 1000000) : n ≤ sizeLine := by rw [sizeLine_eq]; omega
theorem sat_add : SatR2 K (rAddD K) addD := by
  intro W F σ s p H x y dx dy dz Q r ax ay h q
  unfold addD at h
  split at h
  · cases h
    cases ax
    cases ay
    exact .inl ⟨_, _, rfl, rfl, q _ F H (Ext.refl _ _) r rfl⟩
  · rename_i xs ys
    split at h
    · rename_i hl
      cases h
      obtain ⟨a, vs, rfl, h1, h2⟩ := ax
      obtain ⟨b, us, rfl, h3, h4⟩ := ay
      have l1 := AtL.len h2
      have l2 := AtL.len h4
      refine .inr ⟨a, b, vs, us, rfl, rfl, SqT.of (r.exF _ _ h1), SqT.of (r.exF _ _ h3), line6 (by omega), fun e => ?_, fun e1 e2 => ?_, fun e1 e2 t ht => ?_⟩
      · subst e
        have : xs = [] := List.eq_nil_of_length_eq_zero (by simpa using l1)
        subst this
        exact q _ F H (Ext.refl _ _) r ⟨b, us, rfl, h3, h4⟩
      · subst e2
        have : ys = [] := List.eq_nil_of_length_eq_zero (by simpa using l2)
        subst this
        exact q _ F H (Ext.refl _ _) r ⟨a, vs, rfl, h1, by rw [List.append_nil]; exact h2⟩
      · have x2 := Ext.new (o := .tup (vs ++ us)) r.exF ht
        exact q _ _ _ x2 (r.new ht) ⟨t, _, rfl, upd_same, AtL.app (AtL.mono x2.ex _ _ h2) (AtL.mono x2.ex _ _ h4)⟩
    · cases h
  · cases h
def i2 (f : Int → Int → Int) : D → D → Option D
  | .int a, .int b => some (.int (f a b))
  | _, _ => none
def subD : D → D → Option D := i2 fun a b => a - b
theorem sat_sub : SatR2 K (rI0 fun i j => .int (i - j)) subD := by
  intro W F σ s p H x y dx dy dz Q r ax ay h q
  unfold subD i2 at h
  split at h
  · cases h
    cases ax
    cases ay
    exact ⟨_, _, rfl, rfl, q _ F H (Ext.refl _ _) r rfl⟩
  · cases h
/-- a small number -/
def sml (a : Int) : Bool := decide (-(2 ^ 64) < a) && decide (a < 2 ^ 64)
def mulOk (a b : Int) : Bool := sml a || sml b || decide (a.natAbs.log2 + b.natAbs.log2 < 1000000)
def imulD : D → D → Option D
  | .int a, .int b => if mulOk a b = true then some (.int (a * b)) else none
  | _, _ => none
def rMulD : R2 := fun x y H Q => rI CMul (fun i j => .int (i * j)) x y H Q ∨ rI CMulW (fun i j => .int (i * j)) x y H Q
theorem op_mulD : OpR X (binaryOp .Mult) rMulD := OpR.or op_mul op_mulW
theorem sat_mul : SatR2 K rMulD imulD := by
  intro W F σ s p H x y dx dy dz Q r ax ay h q
  unfold imulD at h
  split at h
  · rename_i a b
    split at h
    · rename_i hm
      cases h
      cases ax
      cases ay
      have q' := q _ F H (Ext.refl _ _) r (rfl : At K F (.int (a * b)) (.int (a * b)))
      simp only [mulOk, sml, Bool.or_eq_true, Bool.and_eq_true, decide_eq_true_eq] at hm
      rcases hm with (hm | hm) | hm
      · exact .inl ⟨_, _, rfl, rfl, .inl hm, q'⟩
      · exact .inl ⟨_, _, rfl, rfl, .inr hm, q'⟩
      · exact .inr ⟨_, _, rfl, rfl, hm, q'⟩
    · cases h
  · cases h
def modD : D → D → Option D
  | .int a, .int b => if 0 < b then some (.int (a % b)) else if b ≠ 0 then some (.int (a.fmod b)) else none
  | _, _ => none
theorem sat_mod : SatR2 K (rI (fun _ j => j ≠ 0) fun i j => .int (i.fmod j)) modD := by
  intro W F σ s p H x y dx dy dz Q r ax ay h q
  unfold modD at h
  split at h
  · rename_i a b
    split at h
    · rename_i hb
      cases h
      cases ax
      cases ay
      refine ⟨_, _, rfl, rfl, by omega, ?_⟩
      show Q (V.int (a.fmod b)) H
      rw [Int.fmod_eq_emod_of_nonneg a (by omega : 0 ≤ b)]
      exact q _ F H (Ext.refl _ _) r rfl
    · split at h
      · rename_i hb
        cases h
        cases ax
        cases ay
        exact ⟨_, _, rfl, rfl, hb, q _ F H (Ext.refl _ _) r rfl⟩
      · cases h
  · cases h
def divOk (b : Int) : Bool := decide (b.natAbs.log2 < 9000)
def divD : D → D → Option D
  | .int a, .int b => if 0 < b ∧ divOk b = true then some (.int (a / b)) else if b ≠ 0 ∧ divOk b = true then some (.int (a.fdiv b)) else none
  | _, _ => none
theorem op_divD : OpR X (binaryOp .FloorDiv) (rI (fun _ j => j ≠ 0 ∧ j.natAbs.log2 < 9000) fun i j => .int (i.fdiv j)) := opI fun i j _ _ _ _ _ hc q =>
  PyProof.Rows.floordiv_int hc.1 q (.inl (PyProof.noPylong_of_log2 hc.2))
theorem sat_div : SatR2 K (rI (fun _ j => j ≠ 0 ∧ j.natAbs.log2 < 9000) fun i j => .int (i.fdiv j)) divD := by
  intro W F σ s p H x y dx dy dz Q r ax ay h q
  unfold divD at h
  split at h
  · rename_i a b
    split at h
    · rename_i hb
      cases h
      cases ax
      cases ay
      refine ⟨_, _, rfl, rfl, ⟨by omega, by simpa [divOk] using hb.2⟩, ?_⟩
      show Q (V.int (a.fdiv b)) H
      rw [Int.fdiv_eq_ediv_of_nonneg a (by omega : 0 ≤ b)]
      exact q _ F H (Ext.refl _ _) r rfl
    · split at h
      · rename_i hb
        cases h
        cases ax
        cases ay
        exact ⟨_, _, rfl, rfl, ⟨hb.1, by simpa [divOk] using hb.2⟩, q _ F H (Ext.refl _ _) r rfl⟩
      · cases h
  · cases h
def negD : D → Option D
  | .int a => some (.int (-a))
  | _ => none
theorem sat_neg : SatR1 K (rU fun i => .int (-i)) negD := by
  intro W F σ s p H x dx dz Q r ax h q
  unfold negD at h
  split at h
  · cases h
    cases ax
    exact ⟨_, rfl, q _ F H (Ext.refl _ _) r rfl⟩
  · cases h
/-- comparisons of ints -/
def cmpD (f : Int → Int → Bool) : D → D → Option D
  | .int a, .int b => some (.bl (f a b))
  | _, _ => none
theorem sat_cmp (f : Int → Int → Bool) : SatR2 K (rI0 fun i j => .bl (f i j)) (cmpD f) := by
  intro W F σ s p H x y dx dy dz Q r ax ay h q
  unfold cmpD at h
  split at h
  · cases h
    cases ax
    cases ay
    exact ⟨_, _, rfl, rfl, q _ F H (Ext.refl _ _) r rfl⟩
  · cases h
abbrev ltD := cmpD fun a b => decide (a < b)
abbrev leD := cmpD fun a b => decide (a ≤ b)
abbrev gtD := cmpD fun a b => decide (b < a)
abbrev geD := cmpD fun a b => decide (b ≤ a)
def isNon : D → Bool
  | .non => true
  | _ => false
def isnD : D → D → Option D
  | a, .non => some (.bl (isNon a))
  | _, _ => none
def isnnD : D → D → Option D
  | a, .non => some (.bl (!isNon a))
  | _, _ => none
theorem isNon_at {F : Hp} {d : D} {v : V} (h : At K F d v) : decide (v = .non) = isNon d := by
  cases d with
  | non => cases h; rfl
  | bl _ => cases h; rfl
  | int _ => cases h; rfl
  | str _ => cases h; rfl
  | tup _ => obtain ⟨a, vs, rfl, _⟩ := h; rfl
  | lst _ => obtain ⟨a, vs, rfl, _⟩ := h; rfl
  | ro _ => obtain ⟨a, vs, rfl, _⟩ := h; rfl
  | dic _ _ => obtain ⟨a, rfl, _⟩ := h; rfl
theorem sat_isn : SatR2 K (fun x y H Q => y = .non ∧ Q (.bl (decide (x = .non))) H) isnD := by
  intro W F σ s p H x y dx dy dz Q r ax ay h q
  unfold isnD at h
  split at h
  · cases h
    refine ⟨ay, ?_⟩
    rw [isNon_at ax]
    exact q _ F H (Ext.refl _ _) r rfl
  · cases h
theorem sat_isnn : SatR2 K (fun x y H Q => y = .non ∧ Q (.bl (!decide (x = .non))) H) isnnD := by
  intro W F σ s p H x y dx dy dz Q r ax ay h q
  unfold isnnD at h
  split at h
  · cases h
    refine ⟨ay, ?_⟩
    rw [isNon_at ax]
    exact q _ F H (Ext.refl _ _) r rfl
  · cases h

def ixD : D → D → Option D
  | .tup xs, .int i => atI xs i
  | .lst xs, .int i => atI xs i
  | _, _ => none
theorem atI_at {F : Hp} {ds : List D} {vs : List V} {i : Int} {d : D} (h : AtL K F ds vs) (e : atI ds i = some d) : ∃ v, atI vs i = some v ∧ At K F d v := by
  unfold atI at e ⊢
  rw [AtL.len h] at e
  cases e1 : ixN vs.length i with
  | none => rw [e1] at e; cases e
  | some j =>
    rw [e1] at e
    exact h.get e
theorem sat_ix : SatR2 K (rIx K) ixD := by
  intro W F σ s p H x y dx dy dz Q r ax ay h q
  unfold ixD at h
  split at h
  · cases ay
    obtain ⟨a, vs, rfl, h1, h2⟩ := ax
    obtain ⟨v, e1, av⟩ := atI_at h2 h
    exact .inr (.inl ⟨a, vs, _, v, rfl, rfl, SqT.of (r.exF _ _ h1), e1, q _ F H (Ext.refl _ _) r av⟩)
  · cases ay
    obtain ⟨a, vs, rfl, h1, h2⟩ := ax
    obtain ⟨v, e1, av⟩ := atI_at h2 h
    exact .inl ⟨a, vs, _, v, rfl, rfl, SqL.of (r.exF _ _ h1), e1, q _ F H (Ext.refl _ _) r av⟩
  · cases h
theorem ed_ix {a b : Expr} {fa fb : FE} {pos : Pos} (ha : ED X a fa) (hb : ED X b fb) (hs : PlainIx b := by exact fun _ _ => rfl) : ED X (.Subscript a b pos) (fBin ixD fa fb) := by
  obtain ⟨ta, pa, sa⟩ := ha
  obtain ⟨tb, pb, sb⟩ := hb
  exact ⟨_, pe_ix ix_seq pa pb hs, satE_op sa sb sat_ix⟩

def lenD : List D → Option D
  | [.tup xs] => some (.int xs.length)
  | [.lst xs] => some (.int xs.length)
  | _ => none
theorem sat_len : SatC K (fun xs H Q => ∃ p ys, xs = [.ref p] ∧ (SqL K H p ys ∨ SqT K H p ys) ∧ Q (.int ys.length) H) lenD := by
  intro W F σ s p H vs ds dz Q r av h q
  unfold lenD at h
  split at h
  · cases h
    obtain ⟨v, t, rfl, ⟨a, us, rfl, h1, h2⟩, rfl⟩ := av
    refine ⟨a, us, rfl, .inr (SqT.of (r.exF _ _ h1)), ?_⟩
    rw [← AtL.len h2]
    exact q _ F H (Ext.refl _ _) r rfl
  · cases h
    obtain ⟨v, t, rfl, ⟨a, us, rfl, h1, h2⟩, rfl⟩ := av
    refine ⟨a, us, rfl, .inl (SqL.of (r.exF _ _ h1)), ?_⟩
    rw [← AtL.len h2]
    exact q _ F H (Ext.refl _ _) r rfl
  · cases h
def tupD : List D → Option D
  | [.lst xs] => some (.tup xs)
  | [.tup xs] => some (.tup xs)
  | _ => none
theorem sat_tup : SatC K (fun xs H Q => ∃ p ys, xs = [.ref p] ∧ ((SqL K H p ys ∧ ∀ l, H l = none → Q (.ref l) (upd H l (.tup ys))) ∨ (SqT K H p ys ∧ Q (.ref p) H))) tupD := by
  intro W F σ s p H vs ds dz Q r av h q
  unfold tupD at h
  split at h
  · cases h
    obtain ⟨v, t, rfl, ⟨a, us, rfl, h1, h2⟩, rfl⟩ := av
    refine ⟨a, us, rfl, .inl ⟨SqL.of (r.exF _ _ h1), fun l hl => ?_⟩⟩
    have x2 := Ext.new (o := .tup us) r.exF hl
    exact q _ _ _ x2 (r.new hl) ⟨l, us, rfl, upd_same, AtL.mono x2.ex _ _ h2⟩
  · cases h
    obtain ⟨v, t, rfl, ⟨a, us, rfl, h1, h2⟩, rfl⟩ := av
    exact ⟨a, us, rfl, .inr ⟨SqT.of (r.exF _ _ h1), q _ F H (Ext.refl _ _) r ⟨a, us, rfl, h1, h2⟩⟩⟩
  · cases h
def listD : List D → Option (List D)
  | [.lst xs] => some xs
  | [.tup xs] => some xs
  | [.ro xs] => some xs
  | _ => none
theorem sat_list : SatCL K (fun xs H Q => ∃ p ys, xs = [.ref p] ∧ (SqL K H p ys ∨ SqT K H p ys) ∧ ∀ l, H l = none → Q (.ref l) (upd H l (.lst ys))) listD := by
  intro W F σ s p H vs ds dz Q r av h q
  have fin : ∀ {a : Addr} {us : List V}, AtL K F dz us → ∀ l, H l = none → Q (.ref l) (upd H l (.lst us)) := fun h2 l hl =>
    q l _ F _ (Ext.heap grow_upd) (r.garb hl) hl (r.exF.free hl) upd_same h2
  unfold listD at h
  split at h
  · cases h
    obtain ⟨v, t, rfl, ⟨a, us, rfl, h1, h2⟩, rfl⟩ := av
    exact ⟨a, us, rfl, .inl (SqL.of (r.exF _ _ h1)), fin (a := a) h2⟩
  · cases h
    obtain ⟨v, t, rfl, ⟨a, us, rfl, h1, h2⟩, rfl⟩ := av
    exact ⟨a, us, rfl, .inr (SqT.of (r.exF _ _ h1)), fin (a := a) h2⟩
  · cases h
    obtain ⟨v, t, rfl, ⟨a, us, rfl, h1, h2⟩, rfl⟩ := av
    exact ⟨a, us, rfl, .inl (r.exF.seq h1), fin (a := a) h2⟩
  · cases h
def intD : List D → Option D
  | [.int i] => some (.int i)
  | [.bl b] => some (.int (if b = true then 1 else 0))
  | _ => none
theorem sat_int : SatC K (fun xs H Q => (∃ i, xs = [.int i] ∧ Q (.int i) H) ∨ ∃ k, xs = [.bl k] ∧ Q (.int (if k then 1 else 0)) H) intD := by
  intro W F σ s p H vs ds dz Q r av h q
  unfold intD at h
  split at h
  · cases h
    obtain ⟨v, t, rfl, rfl, rfl⟩ := av
    exact .inl ⟨_, rfl, q _ F H (Ext.refl _ _) r rfl⟩
  · cases h
    obtain ⟨v, t, rfl, rfl, rfl⟩ := av
    exact .inr ⟨_, rfl, q _ F H (Ext.refl _ _) r rfl⟩
  · cases h
def absD : List D → Option D
  | [.int i] => some (.int (if i < 0 then -i else i))
  | _ => none
theorem sat_abs : SatC K (fun xs H Q => ∃ i, xs = [.int i] ∧ Q (.int (if i < 0 then -i else i)) H) absD := by
  intro W F σ s p H vs ds dz Q r av h q
  unfold absD at h
  split at h
  · cases h
    obtain ⟨v, t, rfl, rfl, rfl⟩ := av
    exact ⟨_, rfl, q _ F H (Ext.refl _ _) r rfl⟩
  · cases h
def max2D : List D → Option D
  | [.int i, .int j] => some (.int (if j > i then j else i))
  | _ => none
theorem sat_max2 : SatC K (fun xs H Q => ∃ i j, xs = [.int i, .int j] ∧ Q (.int (if j > i then j else i)) H) max2D := by
  intro W F σ s p H vs ds dz Q r av h q
  unfold max2D at h
  split at h
  · cases h
    obtain ⟨v, t, rfl, rfl, ⟨w, t', rfl, rfl, rfl⟩⟩ := av
    exact ⟨_, _, rfl, q _ F H (Ext.refl _ _) r rfl⟩
  · cases h
def min2D : List D → Option D
  | [.int i, .int j] => some (.int (if j < i then j else i))
  | _ => none
theorem sat_min2 : SatC K (fun xs H Q => ∃ i j, xs = [.int i, .int j] ∧ Q (.int (if j < i then j else i)) H) min2D := by
  intro W F σ s p H vs ds dz Q r av h q
  unfold min2D at h
  split at h
  · cases h
    obtain ⟨v, t, rfl, rfl, ⟨w, t', rfl, rfl, rfl⟩⟩ := av
    exact ⟨_, _, rfl, q _ F H (Ext.refl _ _) r rfl⟩
  · cases h
/-- a list of ints -/
def ints? : List D → Option (List Int)
  | [] => some []
  | .int i :: r => (ints? r).map (i :: ·)
  | _ :: _ => none
theorem ints?_eq : ∀ {ds : List D} {ns : List Int}, ints? ds = some ns → ds = ns.map D.int
  | [], ns, h => by cases h; rfl
  | .int i :: r, ns, h => by
    unfold ints? at h
    cases e : ints? r with
    | none => rw [e] at h; cases h
    | some m =>
      rw [e] at h
      cases h
      rw [ints?_eq e]
      rfl
  | .non :: _, _, h => by cases h
  | .bl _ :: _, _, h => by cases h
  | .str _ :: _, _, h => by cases h
  | .tup _ :: _, _, h => by cases h
  | .lst _ :: _, _, h => by cases h
  | .ro _ :: _, _, h => by cases h
  | .dic _ _ :: _, _, h => by cases h
@[simp] theorem ints?_map : ∀ ns : List Int, ints? (ns.map D.int) = some ns
  | [] => rfl
  | n :: ns => by
    show (ints? (ns.map D.int)).map (n :: ·) = _
    rw [ints?_map ns]
    rfl
def sumD : List D → Option D
  | [.lst xs] => (ints? xs).map fun ns => .int ns.sum
  | _ => none
theorem sat_sum : SatC K (rSum K) sumD := by
  intro W F σ s p H vs ds dz Q r av h q
  unfold sumD at h
  split at h
  · rename_i xs
    cases e : ints? xs with
    | none => rw [e] at h; cases h
    | some ns =>
      rw [e] at h
      cases h
      obtain ⟨v, t, rfl, ⟨a, us, rfl, h1, h2⟩, rfl⟩ := av
      rw [ints?_eq e] at h2
      have h3 := AtL.ints_inv h2
      subst h3
      exact ⟨a, ns, rfl, SqL.of (r.exF _ _ h1), q _ F H (Ext.refl _ _) r rfl⟩
  · cases h
def bls? : List D → Option (List Bool)
  | [] => some []
  | .bl i :: r => (bls? r).map (i :: ·)
  | _ :: _ => none
theorem bls?_eq : ∀ {ds : List D} {ns : List Bool}, bls? ds = some ns → ds = ns.map D.bl
  | [], ns, h => by cases h; rfl
  | .bl i :: r, ns, h => by
    unfold bls? at h
    cases e : bls? r with
    | none => rw [e] at h; cases h
    | some m =>
      rw [e] at h
      cases h
      rw [bls?_eq e]
      rfl
  | .non :: _, _, h => by cases h
  | .int _ :: _, _, h => by cases h
  | .str _ :: _, _, h => by cases h
  | .tup _ :: _, _, h => by cases h
  | .lst _ :: _, _, h => by cases h
  | .ro _ :: _, _, h => by cases h
  | .dic _ _ :: _, _, h => by cases h
@[simp] theorem bls?_map : ∀ ns : List Bool, bls? (ns.map D.bl) = some ns
  | [] => rfl
  | n :: ns => by
    show (bls? (ns.map D.bl)).map (n :: ·) = _
    rw [bls?_map ns]
    rfl
def allD : List D → Option D
  | [.lst xs] => (bls? xs).map fun ns => .bl (ns.all id)
  | _ => none
theorem sat_all : SatC K (rAll K) allD := by
  intro W F σ s p H vs ds dz Q r av h q
  unfold allD at h
  split at h
  · rename_i xs
    cases e : bls? xs with
    | none => rw [e] at h; cases h
    | some ns =>
      rw [e] at h
      cases h
      obtain ⟨v, t, rfl, ⟨a, us, rfl, h1, h2⟩, rfl⟩ := av
      rw [bls?_eq e] at h2
      have h3 := AtL.bls_inv h2
      subst h3
      exact ⟨a, ns, rfl, SqL.of (r.exF _ _ h1), q _ F H (Ext.refl _ _) r rfl⟩
  · cases h
def anyD : List D → Option D
  | [.lst xs] => (bls? xs).map fun ns => .bl (ns.any id)
  | _ => none
theorem sat_any : SatC K (rAny K) anyD := by
  intro W F σ s p H vs ds dz Q r av h q
  unfold anyD at h
  split at h
  · rename_i xs
    cases e : bls? xs with
    | none => rw [e] at h; cases h
    | some ns =>
      rw [e] at h
      cases h
      obtain ⟨v, t, rfl, ⟨a, us, rfl, h1, h2⟩, rfl⟩ := av
      rw [bls?_eq e] at h2
      have h3 := AtL.bls_inv h2
      subst h3
      exact ⟨a, ns, rfl, SqL.of (r.exF _ _ h1), q _ F H (Ext.refl _ _) r rfl⟩
  · cases h
/-- the greatest, the least of a list of ints -/
def lmax : List Int → Int
  | [] => 0
  | [x] => x
  | x :: y :: r => max x (lmax (y :: r))
def lmin : List Int → Int
  | [] => 0
  | [x] => x
  | x :: y :: r => min x (lmin (y :: r))
theorem lmax_mem : ∀ {l : List Int}, l ≠ [] → lmax l ∈ l
  | [], h => absurd rfl h
  | [x], _ => by simp [lmax]
  | x :: y :: r, _ => by
    have ih := lmax_mem (l := y :: r) (by simp)
    unfold lmax
    by_cases h : x ≤ lmax (y :: r)
    · rw [Int.max_eq_right h]; exact List.mem_cons_of_mem _ ih
    · rw [Int.max_eq_left (by omega)]; exact List.mem_cons_self
theorem lmax_le : ∀ {l : List Int} {y : Int}, y ∈ l → y ≤ lmax l
  | [x], y, h => by simp at h; simp [lmax, h]
  | x :: z :: r, y, h => by
    unfold lmax
    rcases List.mem_cons.mp h with rfl | h
    · exact Int.le_max_left _ _
    · exact Int.le_trans (lmax_le h) (Int.le_max_right _ _)
theorem lmin_mem : ∀ {l : List Int}, l ≠ [] → lmin l ∈ l
  | [], h => absurd rfl h
  | [x], _ => by simp [lmin]
  | x :: y :: r, _ => by
    have ih := lmin_mem (l := y :: r) (by simp)
    unfold lmin
    by_cases h : lmin (y :: r) ≤ x
    · rw [Int.min_eq_right h]; exact List.mem_cons_of_mem _ ih
    · rw [Int.min_eq_left (by omega)]; exact List.mem_cons_self
theorem lmin_le : ∀ {l : List Int} {y : Int}, y ∈ l → lmin l ≤ y
  | [x], y, h => by simp at h; simp [lmin, h]
  | x :: z :: r, y, h => by
    unfold lmin
    rcases List.mem_cons.mp h with rfl | h
    · exact Int.min_le_left _ _
    · exact Int.le_trans (Int.min_le_right _ _) (lmin_le h)
def maxD : List D → Option D
  | [.lst xs] => (ints? xs).bind fun ns => if ns = [] then none else some (.int (lmax ns))
  | _ => none
def minD : List D → Option D
  | [.lst xs] => (ints? xs).bind fun ns => if ns = [] then none else some (.int (lmin ns))
  | _ => none
theorem sat_max : SatC K (rMax K) maxD := by
  intro W F σ s p H vs ds dz Q r av h q
  unfold maxD at h
  split at h
  · rename_i xs
    cases e : ints? xs with
    | none => rw [e] at h; cases h
    | some ns =>
      rw [e] at h
      change (if ns = [] then none else some (D.int (lmax ns))) = _ at h
      split at h
      · cases h
      · rename_i hn
        cases h
        obtain ⟨v, t, rfl, ⟨a, us, rfl, h1, h2⟩, rfl⟩ := av
        rw [ints?_eq e] at h2
        have h3 := AtL.ints_inv h2
        subst h3
        refine ⟨a, ns, rfl, SqL.of (r.exF _ _ h1), List.length_pos_iff.mpr hn, fun m hm hle => ?_⟩
        have e2 : m = lmax ns := Int.le_antisymm (lmax_le hm) (hle _ (lmax_mem hn))
        subst e2
        exact q _ F H (Ext.refl _ _) r rfl
  · cases h
theorem sat_min : SatC K (rMin K) minD := by
  intro W F σ s p H vs ds dz Q r av h q
  unfold minD at h
  split at h
  · rename_i xs
    cases e : ints? xs with
    | none => rw [e] at h; cases h
    | some ns =>
      rw [e] at h
      change (if ns = [] then none else some (D.int (lmin ns))) = _ at h
      split at h
      · cases h
      · rename_i hn
        cases h
        obtain ⟨v, t, rfl, ⟨a, us, rfl, h1, h2⟩, rfl⟩ := av
        rw [ints?_eq e] at h2
        have h3 := AtL.ints_inv h2
        subst h3
        refine ⟨a, ns, rfl, SqL.of (r.exF _ _ h1), List.length_pos_iff.mpr hn, fun m hm hle => ?_⟩
        have e2 : m = lmin ns := Int.le_antisymm (hle _ (lmin_mem hn)) (lmin_le hm)
        subst e2
        exact q _ F H (Ext.refl _ _) r rfl
  · cases h
end
end DL

namespace DL
open PySem L2

def gN (i : Nat) : FG := fun d s => if i < s.length then some (s.set i (.fz d)) else none
def gT (n : Nat) (g : List D → List Sl → Option (List Sl)) : FG := fun d s => match d with
  | .tup ds => if ds.length = n then g ds s else none
  | _ => none
def gNilD : List D → List Sl → Option (List Sl) := fun ds s => match ds with
  | [] => some s
  | _ => none
def gConsD (g : FG) (gs : List D → List Sl → Option (List Sl)) : List D → List Sl → Option (List Sl) := fun ds s => match ds with
  | d :: r => (g d s).bind fun s1 => gs r s1
  | [] => none
section
variable {X : Cx} {K : PySem.W.Frag} {e : Expr} {es : List Expr} {pos : Pos}
theorem satG_name (i : Nat) : SatG K (gName i) [i] (gN i) := by
  intro W F σ s p H Q d v s' r a h hl q
  unfold gN at h
  split at h
  · rename_i hi
    cases h
    refine q _ (by simp [hl]) (fun j hj => ?_) (r.store a (by omega))
    rw [List.getElem?_set_ne (fun z => hj (by simp [z]))]
  · cases h
theorem gd_name {i : Nat} {x : Str} (hN : X.N.Nodup) (hi : X.N[i]? = some x) (hx : Loc X.env.scope x) (hf : X.fn x = true ∨ X.env.scope.names.lookup x = some .local := by first | exact .inl rfl | exact .inr rfl | assumption) : GD X (.Name x pos) [i] (gN i) :=
  ⟨_, pg_name hN hi hx hf, satG_name i⟩
theorem gsd_nil : GsD X [] [] gNilD := ⟨_, pgs_nil, fun W F σ s p H Q ds vs s' r a h hl q => by
  unfold gNilD at h
  split at h
  · cases h
    cases a
    exact ⟨rfl, q σ hl (fun _ _ => rfl) r⟩
  · cases h⟩
theorem gsd_cons {i1 i2 : List Nat} {g : FG} {gs : List D → List Sl → Option (List Sl)} (h1 : GD X e i1 g) (h2 : GsD X es i2 gs)
    (hs : (assignEach (e :: es) X.env).map (·.2) = assign e X.env :: (assignEach es X.env).map (·.2) := by rfl) : GsD X (e :: es) (i1 ++ i2) (gConsD g gs) := by
  obtain ⟨t, pt, st⟩ := h1
  obtain ⟨u, pu, su⟩ := h2
  refine ⟨_, pgs_cons pt pu hs, fun W F σ s p H Q ds vs s' r a h hl q => ?_⟩
  unfold gConsD at h
  split at h
  · rename_i d rr
    obtain ⟨v, vr, rfl, a1, a2⟩ := a
    cases e1 : g d s with
    | none => rw [e1] at h; cases h
    | some s1 =>
      rw [e1] at h
      refine ⟨v, vr, rfl, st W F σ s p H _ d v s1 r a1 e1 hl fun σ1 l1 k1 r1 => ?_⟩
      refine su W F σ1 s1 p H Q rr vr s' r1 a2 h l1 fun σ2 l2 k2 r2 => q σ2 l2 (fun j hj => ?_) r2
      rw [k2 j (fun z => hj (List.mem_append_right _ z)), k1 j (fun z => hj (List.mem_append_left _ z))]
  · cases h
theorem gd_tup {k n : Nat} {idx : List Nat} {gs : List D → List Sl → Option (List Sl)} (h : GsD X es idx gs) (hc : X.calm = true := by rfl)
    (hn : (assignEach es X.env).length = n := by rfl) (hst : (assignEach es X.env).findIdx? (·.1) = none := by rfl) : GD X (.Tuple es k pos) idx (gT n gs) := by
  obtain ⟨t, pt, st⟩ := h
  refine ⟨_, pg_tup hc pt hn hst, fun W F σ s p H Q d v s' r a h hl q => ?_⟩
  unfold gT at h
  split at h
  · rename_i ds
    split at h
    · rename_i hlen
      obtain ⟨b, us, rfl, h1, h2⟩ := a
      exact ⟨b, us, rfl, SqT.of (r.exF _ _ h1), by rw [← AtL.len h2]; exact hlen, st W F σ s p H Q ds us s' r h2 h hl q⟩
    · cases h
  · cases h

def xNx : FS := fun s p => some (.nx s p)
def xSeq (a b : FS) : FS := fun s p => (a s p).bind fun o => match o with
  | .nx s1 p1 => b s1 p1
  | o => some o
def xSet (i : Nat) (fe : FE) : FS := fun s p => (fe s p).bind fun x => if i < s.length then some (.nx (s.set i (.fz x.1)) x.2) else none
def xAsg (g : FG) (fe : FE) : FS := fun s p => (fe s p).bind fun x => (g x.1 s).map fun s1 => .nx s1 x.2
def xOwn (i : Nat) (fs : FA) : FS := fun s p => (fs s p).bind fun x => if i < s.length then some (.nx (s.set i (.ol x.1)) x.2) else none
def xRet (fe : FE) : FS := fun s p => (fe s p).map fun x => .rt x.1 x.2
def xDrop (fe : FE) : FS := fun s p => (fe s p).map fun x => .nx s x.2
def xIf (t : FT) (a b : FS) : FS := fun s p => (t s p).bind fun x => if x.1 = true then a s x.2 else b s x.2
def xBrk : FS := fun s p => some (.bk s p)
def xCnt : FS := fun s p => some (.ct s p)
def xNever : FS := fun _ _ => none
def freeze (s : List Sl) : List Sl := s.map fun x => match x with
  | .ol xs => .fz (.lst xs)
  | .od t kvs => .fz (.dic t kvs)
  | x => x
def thE (fe : FE) : FE := fun s p => (fe (freeze s) p).bind fun x => if x.1.imm = true then some x else none
def thA (fe : FA) : FA := fun s p => (fe (freeze s) p).bind fun x => if immL x.1 = true then some x else none
def thT (ft : FT) : FT := fun s p => ft (freeze s) p
def xRetTh (fe : FE) : FS := fun s p => (fe (freeze s) p).map fun x => .rt x.1 x.2
theorem ssd_nil : SSD X [] xNx := ⟨_, pss_nil, fun W F σ s p H Dn o r hl h q => by cases h; exact q σ F H hl (ExtS.refl _ _ _) r⟩
theorem satS_seq {t u : TS} {a b : FS} (ha : SatS K t a) (hb : SatS K u b) : SatS K (tSeq t u) (xSeq a b) := by
  intro W F σ s p H Dn o r hl h q
  unfold xSeq at h
  cases e1 : a s p with
  | none => rw [e1] at h; cases h
  | some o1 =>
    rw [e1] at h
    refine ha W F σ s p H { Dn with nx := u Dn } o1 r hl e1 ?_
    cases o1 with
    | nx s1 p1 => exact fun σ1 F1 H1 l1 x1 r1 => hb W F1 σ1 s1 p1 H1 Dn o r1 l1 h (q.from x1)
    | rt d1 p1 => cases h; exact q
    | bk s1 p1 => cases h; exact q
    | ct s1 p1 => cases h; exact q
theorem ssd_cons {st : Stmt} {rest : List Stmt} {a b : FS} (h1 : SD X st a) (h2 : SSD X rest b) : SSD X (st :: rest) (xSeq a b) := by
  obtain ⟨t, pt, sa⟩ := h1
  obtain ⟨u, pu, sb⟩ := h2
  exact ⟨_, pss_cons pt pu, satS_seq sa sb⟩
theorem ssd_one {st : Stmt} {a : FS} (h1 : SD X st a) : SSD X [st] a := by
  obtain ⟨t, pt, sa⟩ := h1
  exact ⟨_, pss_one pt, sa⟩
theorem sd_never {st : Stmt} : SD X st xNever := ⟨_, ps_never, fun W F σ s p H Dn o r hl h q => by cases h⟩
theorem ssd_never {st : List Stmt} : SSD X st xNever := ⟨_, pss_never, fun W F σ s p H Dn o r hl h q => by cases h⟩
theorem satS_set {te : TE} {fe : FE} (i : Nat) (he : SatE K te fe) : SatS K (tAsg te (gName i)) (xSet i fe) := by
  intro W F σ s p H Dn o r hl h q
  unfold xSet at h
  cases e1 : fe s p with
  | none => rw [e1] at h; cases h
  | some x =>
    rw [e1] at h
    change (if i < s.length then some (Out.nx (s.set i (.fz x.1)) x.2) else none) = some o at h
    split at h
    · rename_i hi
      cases h
      refine he W F σ s p H _ x.1 x.2 r e1 fun v F1 H1 x1 r1 a1 => ?_
      exact q _ F1 H1 (by simp [hl]) (x1.s r) (r1.store a1 (by omega))
    · cases h
theorem satS_asg {te : TE} {fe : FE} {tg : TG} {idx : List Nat} {g : FG} (he : SatE K te fe) (hg : SatG K tg idx g) : SatS K (tAsg te tg) (xAsg g fe) := by
  intro W F σ s p H Dn o r hl h q
  unfold xAsg at h
  cases e1 : fe s p with
  | none => rw [e1] at h; cases h
  | some x =>
    rw [e1] at h
    change (g x.1 s).map _ = some o at h
    cases e2 : g x.1 s with
    | none => rw [e2] at h; cases h
    | some s1 =>
      rw [e2] at h
      cases h
      refine he W F σ s p H _ x.1 x.2 r e1 fun v F1 H1 x1 r1 a1 => ?_
      exact hg W F1 σ s x.2 H1 _ x.1 v s1 r1 a1 e2 hl fun σ1 l1 _ r2 => q σ1 F1 H1 l1 (x1.s r) r2
theorem satS_own {te : TE} {fs : FA} (i : Nat) (he : SatL K te fs) : SatS K (tAsg te (gName i)) (xOwn i fs) := by
  intro W F σ s p H Dn o r hl h q
  unfold xOwn at h
  cases e1 : fs s p with
  | none => rw [e1] at h; cases h
  | some x =>
    rw [e1] at h
    change (if i < s.length then some (Out.nx (s.set i (.ol x.1)) x.2) else none) = some o at h
    split at h
    · rename_i hi
      cases h
      refine he W F σ s p H _ x.1 x.2 r e1 fun a vs F1 H1 x1 r1 h0 hf ha a1 => ?_
      refine q _ F1 H1 (by simp [hl]) (x1.s r) (r1.ownNew (by omega) ?_ hf ha ⟨vs, rfl, a1⟩ (fun hu z => ?_) fun j y hy oy z => ?_)
      · cases hb : W.B a with
        | none => rfl
        | some ob => rw [r.exB _ _ hb] at h0; cases h0
      · rw [z, (r.pool hu).2.2.1] at h0; cases h0
      · obtain ⟨b, ob, z1, _, _, _, z5, _⟩ := slok_own oy (r.slot j y hy)
        rw [z1] at z
        cases z
        rw [z5] at h0; cases h0
    · cases h
theorem sd_set {i : Nat} {x : Str} {fe : FE} {pos' : Pos} (hN : X.N.Nodup) (hi : X.N[i]? = some x) (hx : Loc X.env.scope x) (he : ED X e fe) (hs : swapsWith e (some (.Name x pos')) pos.line X.env = pure false := by rfl) (hf : X.fn x = true ∨ X.env.scope.names.lookup x = some .local := by first | exact .inl rfl | exact .inr rfl | assumption) :
    SD X (.Assign [.Name x pos'] e pos) (xSet i fe) := by
  obtain ⟨te, pe, se⟩ := he
  exact ⟨_, ps_set hN hi hx pe hs hf, satS_set i se⟩
theorem sd_own {i : Nat} {x : Str} {fs : FA} {pos' : Pos} (hN : X.N.Nodup) (hi : X.N[i]? = some x) (hx : Loc X.env.scope x) (he : LD X e fs) (hs : swapsWith e (some (.Name x pos')) pos.line X.env = pure false := by rfl) (hf : X.fn x = true ∨ X.env.scope.names.lookup x = some .local := by first | exact .inl rfl | exact .inr rfl | assumption) :
    SD X (.Assign [.Name x pos'] e pos) (xOwn i fs) := by
  obtain ⟨te, pe, se⟩ := he
  exact ⟨_, ps_set hN hi hx pe hs hf, satS_own i se⟩
theorem sd_asg {tg : Expr} {idx : List Nat} {g : FG} {fe : FE} (he : ED X e fe) (hg : GD X tg idx g) (hs : swapsWithSole [tg] e pos.line X.env = pure false := by rfl) (hw : swappedStores [tg] e X.env = pure none := by rfl)
    (h1 : (assignEach [tg] X.env).map (·.2) = [assign tg X.env] := by rfl) : SD X (.Assign [tg] e pos) (xAsg g fe) := by
  obtain ⟨te, pe, se⟩ := he
  obtain ⟨t, pt, st⟩ := hg
  exact ⟨_, ps_asg pe pt hs hw h1, satS_asg se st⟩
/-- x, y = a, b -/
def xPar (i j : Nat) (fs : FA) : FS := fun s p => (fs s p).bind fun x => match x.1 with
  | [d, d'] => if i < s.length ∧ j < s.length then some (.nx ((s.set i (.fz d)).set j (.fz d')) x.2) else none
  | _ => none
theorem sd_par {i j : Nat} {x y : Str} {a b : Expr} {fs : FA} {px py pt : Pos} {kt k2 pt2} (hN : X.N.Nodup) (hi : X.N[i]? = some x) (hj : X.N[j]? = some y) (hij : i ≠ j)
    (hx : X.env.scope.names.lookup x = some .local) (hy : X.env.scope.names.lookup y = some .local) (ha : AD X [a, b] fs)
    (hw : swappedStores [.Tuple [.Name x px, .Name y py] kt pt] (.Tuple [a, b] k2 pt2) X.env = pure (some [x, y]))
    (hs : swapsWithSole [.Tuple [.Name x px, .Name y py] kt pt] (.Tuple [a, b] k2 pt2) pos.line X.env = pure false := by rfl) (hc : X.calm = true := by rfl) :
    SD X (.Assign [.Tuple [.Name x px, .Name y py] kt pt] (.Tuple [a, b] k2 pt2) pos) (xPar i j fs) := by
  obtain ⟨ta, pa, sa⟩ := ha
  refine ⟨_, ps_par hc hN hi hj hij hx hy pa hw hs, fun W F σ s p H Dn o r hl h q => ?_⟩
  unfold xPar at h
  cases e1 : fs s p with
  | none => rw [e1] at h; cases h
  | some z =>
    rw [e1] at h
    change (match z.1 with | [d, d'] => if i < s.length ∧ j < s.length then some (Out.nx ((s.set i (.fz d)).set j (.fz d')) z.2) else none | _ => none) = some o at h
    refine sa W F σ s p H _ z.1 z.2 r e1 fun vs F1 H1 x1 r1 a1 => ?_
    split at h
    · rename_i d d' hz
      split at h
      · rename_i hlt
        cases h
        rw [hz] at a1
        obtain ⟨v, t, rfl, a2, w, t', rfl, a3, rfl⟩ := a1
        exact ⟨v, w, rfl, q _ F1 H1 (by simp [hl]) (x1.s r) ((r1.store a2 (by omega)).store a3 (by simp; omega))⟩
      · cases h
    · cases h
theorem sd_ret {fe : FE} (he : ED X e fe) : SD X (.Return (some e) pos) (xRet fe) := by
  obtain ⟨te, pe, se⟩ := he
  refine ⟨_, ps_ret pe, fun W F σ s p H Dn o r hl h q => ?_⟩
  unfold xRet at h
  cases e1 : fe s p with
  | none => rw [e1] at h; cases h
  | some x =>
    rw [e1] at h
    cases h
    exact se W F σ s p H _ x.1 x.2 r e1 fun v F1 H1 x1 r1 a1 => q v F1 H1 (x1.s r) r1.exB r1.exF a1 r1.pool
theorem sd_expr {fe : FE} (he : ED X e fe) (hs : swapsWith e none pos.line X.env = pure false := by rfl) : SD X (.Expr e pos) (xDrop fe) := by
  obtain ⟨te, pe, se⟩ := he
  refine ⟨_, ps_expr pe hs, fun W F σ s p H Dn o r hl h q => ?_⟩
  unfold xDrop at h
  cases e1 : fe s p with
  | none => rw [e1] at h; cases h
  | some x =>
    rw [e1] at h
    cases h
    exact se W F σ s p H _ x.1 x.2 r e1 fun v F1 H1 x1 r1 a1 => q σ F1 H1 hl (x1.s r) r1
theorem sd_if {c : Expr} {a b : List Stmt} {ft : FT} {xa xb : FS} (hc : TD X c ft) (ha : SSD X a xa) (hb : SSD X b xb) : SD X (.If c a b pos) (xIf ft xa xb) := by
  obtain ⟨tt, pt, st⟩ := hc
  obtain ⟨ta, pa, sa⟩ := ha
  obtain ⟨tb, pb, sb⟩ := hb
  refine ⟨_, ps_if pt pa pb, fun W F σ s p H Dn o r hl h q => ?_⟩
  unfold xIf at h
  cases e1 : ft s p with
  | none => rw [e1] at h; cases h
  | some x =>
    rw [e1] at h
    change (if x.1 = true then xa s x.2 else xb s x.2) = some o at h
    refine st W F σ s p H _ x.1 x.2 r e1 fun F1 H1 x1 r1 => ?_
    by_cases hx : x.1 = true
    · rw [if_pos hx] at h ⊢
      exact sa W F1 σ s x.2 H1 Dn o r1 hl h (q.from (x1.s r))
    · rw [if_neg hx] at h ⊢
      exact sb W F1 σ s x.2 H1 Dn o r1 hl h (q.from (x1.s r))
theorem sd_break : SD X (.Break pos) xBrk := ⟨_, ps_break, fun W F σ s p H Dn o r hl h q => by cases h; exact q σ F H hl (ExtS.refl _ _ _) r⟩
theorem sd_continue : SD X (.Continue pos) xCnt := ⟨_, ps_continue, fun W F σ s p H Dn o r hl h q => by cases h; exact q σ F H hl (ExtS.refl _ _ _) r⟩
theorem sd_pass : SD X (.Pass pos) xNx := ⟨_, ps_pass, fun W F σ s p H Dn o r hl h q => by cases h; exact q σ F H hl (ExtS.refl _ _ _) r⟩

open Classical in
/-- what is known, and one's own -/
noncomputable def thaw (σ : St) (s : List Sl) (F H : Hp) : Hp := fun a => if ∃ (i : Nat) (x : Sl), s[i]? = some x ∧ x.own = true ∧ σ[i]? = some (some (.ref a)) then H a else F a
open Classical in
noncomputable def unthaw (σ : St) (s : List Sl) (F H : Hp) : Hp := fun a => if ∃ (i : Nat) (x : Sl), s[i]? = some x ∧ x.own = true ∧ σ[i]? = some (some (.ref a)) then none else F a
section
variable {W : Wd} {F H : Hp} {σ : St} {s : List Sl} {p : PL}
theorem thaw_in {a : Addr} (h : ∃ (i : Nat) (x : Sl), s[i]? = some x ∧ x.own = true ∧ σ[i]? = some (some (.ref a))) : thaw σ s F H a = H a := by
  unfold thaw; rw [if_pos h]
theorem thaw_out {a : Addr} (h : ¬ ∃ (i : Nat) (x : Sl), s[i]? = some x ∧ x.own = true ∧ σ[i]? = some (some (.ref a))) : thaw σ s F H a = F a := by
  unfold thaw; rw [if_neg h]
theorem unthaw_in {a : Addr} (h : ∃ (i : Nat) (x : Sl), s[i]? = some x ∧ x.own = true ∧ σ[i]? = some (some (.ref a))) : unthaw σ s F H a = none := by
  unfold unthaw; rw [if_pos h]
theorem unthaw_out {a : Addr} (h : ¬ ∃ (i : Nat) (x : Sl), s[i]? = some x ∧ x.own = true ∧ σ[i]? = some (some (.ref a))) : unthaw σ s F H a = F a := by
  unfold unthaw; rw [if_neg h]
theorem R.ownF (r : R K W F σ s p H) {a : Addr} (h : ∃ (i : Nat) (x : Sl), s[i]? = some x ∧ x.own = true ∧ σ[i]? = some (some (.ref a))) : F a = none ∧ W.B a = none ∧ (W.u = true → a ≠ W.A) ∧ ∃ o, H a = some o := by
  obtain ⟨i, x, h1, h2, h3⟩ := h
  obtain ⟨b, o, e1, q2, q3, q4, q5, _⟩ := slok_own h2 (r.slot i x h1)
  rw [h3] at e1
  cases e1
  exact ⟨q4, q3, q2, o, q5⟩
theorem freeze_get {i : Nat} {y : Sl} (h : (freeze s)[i]? = some y) : ∃ x, s[i]? = some x ∧ (match x with | .ol xs => .fz (.lst xs) | .od t kvs => .fz (.dic t kvs) | x => x) = y := by
  unfold freeze at h
  rw [List.getElem?_map] at h
  cases e : s[i]? with
  | none => rw [e] at h; cases h
  | some x => rw [e] at h; exact ⟨x, rfl, Option.some.inj h⟩
theorem freeze_noown {i : Nat} {y : Sl} (h : (freeze s)[i]? = some y) : y.own = false := by
  obtain ⟨x, _, e⟩ := freeze_get h
  subst e
  cases x <;> rfl
theorem R.same_thaw (r : R K W F σ s p H) : Same F (thaw σ s F H) := fun a o e => by
  rw [thaw_out]
  · exact e
  · intro h
    rw [(r.ownF h).1] at e; cases e
theorem R.freeze (r : R K W F σ s p H) : R K W (thaw σ s F H) σ (freeze s) p H := by
  have sm := r.same_thaw
  refine ⟨r.exB, fun a o e => ?_, fun i y hy => ?_, fun i j x y a _ hx hy ox => ?_, fun hu => ?_, by rw [r.len]; simp [DL.freeze]⟩
  · by_cases h : ∃ (i : Nat) (x : Sl), s[i]? = some x ∧ x.own = true ∧ σ[i]? = some (some (.ref a))
    · rw [thaw_in h] at e; exact e
    · rw [thaw_out h] at e; exact r.exF _ _ e
  · obtain ⟨x, hx, e⟩ := freeze_get hy
    have q := r.slot i x hx
    cases x with
    | no => subst e; trivial
    | fz d => subst e; obtain ⟨w, q1, q2⟩ := q; exact ⟨w, q1, At.mono sm _ _ q2⟩
    | pl => subst e; exact q
    | ol xs =>
      subst e
      obtain ⟨a, o, q1, q2, q3, q4, q5, vs, rfl, q6⟩ := q
      exact ⟨.ref a, q1, a, vs, rfl, by rw [thaw_in ⟨i, _, hx, rfl, q1⟩]; exact q5, AtL.mono sm _ _ q6⟩
    | od t kvs =>
      subst e
      obtain ⟨a, o, q1, q2, q3, q4, q5, q6⟩ := q
      refine ⟨.ref a, q1, a, rfl, ?_⟩
      rw [thaw_in ⟨i, _, hx, rfl, q1⟩]
      rcases q6 with ⟨et, ks, rfl, q6⟩ | ⟨et, ks, rfl, q6⟩
      · exact .inl ⟨et, ks, q5, KvK.mono sm _ _ q6⟩
      · exact .inr ⟨et, ks, q5, KvT.mono sm _ _ q6⟩
  · rw [freeze_noown hx] at ox; cases ox
  · obtain ⟨q1, q2, q3, q4, q5⟩ := r.pool hu
    refine ⟨q1, ?_, q3, sm _ _ q4, q5⟩
    rw [thaw_out]
    · exact q2
    · intro h
      exact (r.ownF h).2.2.1 hu rfl
/-- back again -/
theorem R.unfreeze (r : R K W F σ s p H) {F' H' : Hp} {p' : PL} (x : Ext (thaw σ s F H) H F' H') (r' : R K W F' σ (DL.freeze s) p' H') (hp : ∀ v, W.u = true → F v = F v) :
    Ext F H (unthaw σ s F' H') H' ∧ R K W (unthaw σ s F' H') σ s p' H' := by
  have sm : Same F (unthaw σ s F' H') := fun a o e => by
    have hn : ¬ ∃ (i : Nat) (x : Sl), s[i]? = some x ∧ x.own = true ∧ σ[i]? = some (some (.ref a)) := fun h => by rw [(r.ownF h).1] at e; cases e
    rw [unthaw_out hn]
    exact x.ex _ _ (by rw [thaw_out hn]; exact e)
  refine ⟨⟨sm, fun a ha => ?_, x.grow⟩, r'.exB, fun a o e => ?_, fun i y hy => ?_, r.dist, fun hu => ?_, r.len⟩
  · by_cases h : ∃ (i : Nat) (x : Sl), s[i]? = some x ∧ x.own = true ∧ σ[i]? = some (some (.ref a))
    · rw [unthaw_in h, (r.ownF h).1]
    · rw [unthaw_out h, x.fsh a ha, thaw_out h]
  · by_cases h : ∃ (i : Nat) (x : Sl), s[i]? = some x ∧ x.own = true ∧ σ[i]? = some (some (.ref a))
    · rw [unthaw_in h] at e; cases e
    · rw [unthaw_out h] at e; exact r'.exF _ _ e
  · have q := r.slot i y hy
    have own : y.own = true → SlOk K W (unthaw σ s F' H') H' σ[i]? y := fun oy => by
      obtain ⟨a, o, q1, q2, q3, q4, q5, q6⟩ := slok_own oy q
      have h : ∃ (i : Nat) (x : Sl), s[i]? = some x ∧ x.own = true ∧ σ[i]? = some (some (.ref a)) := ⟨i, y, hy, oy, q1⟩
      refine slok_of_own oy ⟨a, o, q1, q2, q3, unthaw_in h, r'.exF _ _ (x.ex _ _ (by rw [thaw_in h]; exact q5)), ObjD.mono sm q6⟩
    cases y with
    | no => trivial
    | fz d => obtain ⟨w, q1, q2⟩ := q; exact ⟨w, q1, At.mono sm _ _ q2⟩
    | pl => exact q
    | ol xs => exact own rfl
    | od t kvs => exact own rfl
  · obtain ⟨q1, q2, q3, q4, q5⟩ := r'.pool hu
    obtain ⟨w1, w2, w3, w4, w5⟩ := r.pool hu
    refine ⟨q1, ?_, q3, ?_, q5⟩
    · rw [unthaw_out]
      · exact q2
      · intro h
        exact (r.ownF h).2.2.1 hu rfl
    · rw [unthaw_out]
      · exact q4
      · intro h
        rw [(r.ownF h).1] at w4; cases w4
theorem tsame_unthaw {F' H' : Hp} (hn : ∀ a, (∃ (i : Nat) (x : Sl), s[i]? = some x ∧ x.own = true ∧ σ[i]? = some (some (.ref a))) → ∀ vs, F' a ≠ some (.tup vs)) : TSame F' (unthaw σ s F' H') := fun a vs h => by
  rw [unthaw_out]
  · exact h
  · intro z; exact hn a z vs h
theorem R.own_notup (r : R K W F σ s p H) {F' H' : Hp} (x : Ext (thaw σ s F H) H F' H') : ∀ a, (∃ (i : Nat) (x : Sl), s[i]? = some x ∧ x.own = true ∧ σ[i]? = some (some (.ref a))) → ∀ vs, F' a ≠ some (.tup vs) := by
  intro a h vs
  obtain ⟨i, y, h1, h2, h3⟩ := id h
  obtain ⟨b, o, e1, q2, q3, q4, q5, q6⟩ := slok_own h2 (r.slot i y h1)
  rw [h3] at e1
  cases e1
  have e : F' a = some o := x.ex _ _ (by rw [thaw_in h]; exact q5)
  rw [e]
  cases y with
  | ol xs => obtain ⟨us, rfl, _⟩ := q6; exact fun z => (by cases z)
  | od t kvs => rcases q6 with ⟨_, ks, rfl, _⟩ | ⟨_, ks, rfl, _⟩ <;> exact fun z => (by cases z)
  | _ => cases h2
end
theorem satE_th {te : TE} {fe : FE} (h : SatE K te fe) : SatE K te (thE fe) := by
  intro W F σ s p H Q d p' r e1 q
  unfold thE at e1
  cases e2 : fe (freeze s) p with
  | none => rw [e2] at e1; cases e1
  | some x =>
    rw [e2] at e1
    change (if x.1.imm = true then some x else none) = _ at e1
    split at e1
    · rename_i hi
      cases e1
      refine h W _ σ _ p H Q d p' r.freeze e2 fun v F1 H1 x1 r1 a1 => ?_
      obtain ⟨x2, r2⟩ := r.unfreeze x1 r1 (fun _ _ => rfl)
      exact q v _ H1 x2 r2 (At.imm (tsame_unthaw (r.own_notup x1)) _ _ hi a1)
    · cases e1
theorem satT_th {tt : TT} {ft : FT} (h : SatT K tt ft) : SatT K tt (thT ft) := by
  intro W F σ s p H Q d p' r e1 q
  refine h W _ σ _ p H Q d p' r.freeze e1 fun F1 H1 x1 r1 => ?_
  obtain ⟨x2, r2⟩ := r.unfreeze x1 r1 (fun _ _ => rfl)
  exact q _ H1 x2 r2
theorem satA_th {ta : TA} {fa : FA} (h : SatA K ta fa) : SatA K ta (thA fa) := by
  intro W F σ s p H Q d p' r e1 q
  unfold thA at e1
  cases e2 : fa (freeze s) p with
  | none => rw [e2] at e1; cases e1
  | some x =>
    rw [e2] at e1
    change (if immL x.1 = true then some x else none) = _ at e1
    split at e1
    · rename_i hi
      cases e1
      refine h W _ σ _ p H Q d p' r.freeze e2 fun v F1 H1 x1 r1 a1 => ?_
      obtain ⟨x2, r2⟩ := r.unfreeze x1 r1 (fun _ _ => rfl)
      exact q v _ H1 x2 r2 (AtL.imm (tsame_unthaw (r.own_notup x1)) _ _ hi a1)
    · cases e1
theorem satL_th {te : TE} {fs : FA} (h : SatL K te fs) : SatL K te (thA fs) := by
  intro W F σ s p H Q d p' r e1 q
  unfold thA at e1
  cases e2 : fs (freeze s) p with
  | none => rw [e2] at e1; cases e1
  | some x =>
    rw [e2] at e1
    change (if immL x.1 = true then some x else none) = _ at e1
    split at e1
    · rename_i hi
      cases e1
      refine h W _ σ _ p H Q d p' r.freeze e2 fun a us F1 H1 x1 r1 h0 hf ha a1 => ?_
      obtain ⟨x2, r2⟩ := r.unfreeze x1 r1 (fun _ _ => rfl)
      refine q a us _ H1 x2 r2 h0 ?_ ha (AtL.imm (tsame_unthaw (r.own_notup x1)) _ _ hi a1)
      rw [unthaw_out]
      · exact hf
      · intro z
        obtain ⟨o, ho⟩ := (r.ownF z).2.2.2
        rw [ho] at h0; cases h0
    · cases e1
theorem ed_th {fe : FE} (h : ED X e fe) : ED X e (thE fe) := by
  obtain ⟨te, pe, se⟩ := h
  exact ⟨te, pe, satE_th se⟩
theorem td_th {ft : FT} (h : TD X e ft) : TD X e (thT ft) := by
  obtain ⟨te, pe, se⟩ := h
  exact ⟨te, pe, satT_th se⟩
theorem ad_th {fa : FA} (h : AD X es fa) : AD X es (thA fa) := by
  obtain ⟨te, pe, se⟩ := h
  exact ⟨te, pe, satA_th se⟩
theorem ld_th {fa : FA} (h : LD X e fa) : LD X e (thA fa) := by
  obtain ⟨te, pe, se⟩ := h
  exact ⟨te, pe, satL_th se⟩
theorem sd_retTh {fe : FE} (he : ED X e fe) : SD X (.Return (some e) pos) (xRetTh fe) := by
  obtain ⟨te, pe, se⟩ := he
  refine ⟨_, ps_ret pe, fun W F σ s p H Dn o r hl h q => ?_⟩
  unfold xRetTh at h
  cases e1 : fe (freeze s) p with
  | none => rw [e1] at h; cases h
  | some x =>
    rw [e1] at h
    cases h
    refine se W _ σ _ p H _ x.1 x.2 r.freeze e1 fun v F1 H1 x1 r1 a1 => ?_
    have x2 := x1.s r.freeze
    refine q v F1 H1 ⟨r.same_thaw.trans x2.ex, fun a ha => ?_, x2.grow⟩ r1.exB r1.exF a1 r1.pool
    rw [x2.fsh a ha, thaw_out]
    intro z
    obtain ⟨_, q2, q3, _⟩ := r.ownF z
    rcases ha with ha | ⟨hu, rfl⟩
    · exact ha q2
    · exact q3 hu rfl
/-- a list of one's own gets a second name, and is left alone from then on -/
def xMove (i j : Nat) : FS := fun s p => match s[i]? with
  | some (.ol xs) => if j < s.length then some (.nx ((s.set i (.fz (.lst xs))).set j (.fz (.lst xs))) p) else none
  | _ => none
theorem sd_move {i j : Nat} {x y : Str} {pos' pos2 : Pos} (hN : X.N.Nodup) (hi : X.N[i]? = some x) (hj : X.N[j]? = some y) (hx : Vis X.env.scope x) (hy : Loc X.env.scope y) (hs : swapsWith (.Name x pos2) (some (.Name y pos')) pos.line X.env = pure false := by rfl)
    (hd : (x == ("__debug__" : Str)) = false := by decide) (hcd : (x == ("__classdict__" : Str)) = false := by decide) (hf : X.fn y = true ∨ X.env.scope.names.lookup y = some .local := by first | exact .inl rfl | exact .inr rfl | assumption) :
    SD X (.Assign [.Name y pos'] (.Name x pos2) pos) (xMove i j) := by
  refine ⟨_, ps_set hN hj hy (pe_var hi hx hd hcd) hs hf, fun W F σ s p H Dn o r hl h q => ?_⟩
  unfold xMove at h
  split at h
  · rename_i xs hsi
    split at h
    · rename_i hj
      cases h
      obtain ⟨a, ob, q1, q2, q3, q4, q5, vs, rfl, q6⟩ := r.slot i _ hsi
      refine ⟨.ref a, q1, ?_⟩
      have sm : Same F (upd F a (.lst vs)) := same_upd q4
      have hil : i < s.length := (List.getElem?_eq_some_iff.mp hsi).1
      have at1 : At X.K (upd F a (.lst vs)) (.lst xs) (.ref a) := ⟨a, vs, rfl, upd_same, AtL.mono sm _ _ q6⟩
      have r1 : R X.K W (upd F a (.lst vs)) (σ.set i (some (.ref a))) (s.set i (.fz (.lst xs))) p H := by
        have hσ : σ.set i (some (.ref a)) = σ := by
          apply List.ext_getElem?
          intro k
          by_cases hk : i = k
          · subst hk; rw [List.getElem?_set_self (by omega), q1]
          · rw [List.getElem?_set_ne hk]
        rw [hσ]
        refine ⟨r.exB, fun b o e => ?_, fun k y hy => ?_, fun k m y z b hkm hy hz oy oz e1 e2 => ?_, fun hu => ?_, by simp [r.len]⟩
        · by_cases hb : b = a
          · subst hb; rw [upd_same] at e; rw [q5]; exact e
          · rw [upd_ne hb] at e; exact r.exF _ _ e
        · by_cases hk : i = k
          · subst hk
            rw [List.getElem?_set_self hil] at hy
            cases hy
            exact ⟨_, q1, at1⟩
          · rw [List.getElem?_set_ne hk] at hy
            have w := r.slot k y hy
            cases y with
            | no => trivial
            | fz d => obtain ⟨v, w1, w2⟩ := w; exact ⟨v, w1, At.mono sm _ _ w2⟩
            | pl => exact w
            | ol ys =>
              obtain ⟨b, ob, w1, w2, w3, w4, w5, w6⟩ := w
              have nb : b ≠ a := fun z => by subst z; exact r.dist i k _ _ b hk hsi hy rfl rfl q1 w1
              exact ⟨b, ob, w1, w2, w3, by rw [upd_ne nb]; exact w4, w5, ObjD.mono sm w6⟩
            | od t ys =>
              obtain ⟨b, ob, w1, w2, w3, w4, w5, w6⟩ := w
              have nb : b ≠ a := fun z => by subst z; exact r.dist i k _ _ b hk hsi hy rfl rfl q1 w1
              exact ⟨b, ob, w1, w2, w3, by rw [upd_ne nb]; exact w4, w5, ObjD.mono sm w6⟩
        · have ne : ∀ {c : Nat} {z : Sl}, (s.set i (.fz (.lst xs)))[c]? = some z → z.own = true → s[c]? = some z := fun {c z} hz oz => by
            by_cases hc : i = c
            · subst hc; rw [List.getElem?_set_self hil] at hz; cases hz; cases oz
            · rw [List.getElem?_set_ne hc] at hz; exact hz
          exact r.dist k m y z b hkm (ne hy oy) (ne hz oz) oy oz e1 e2
        · obtain ⟨w1, w2, w3, w4, w5⟩ := r.pool hu
          exact ⟨w1, by rw [upd_ne (Ne.symm (q2 hu))]; exact w2, w3, sm _ _ w4, w5⟩
      have hσ : σ.set i (some (.ref a)) = σ := by
        apply List.ext_getElem?
        intro k
        by_cases hk : i = k
        · subst hk; rw [List.getElem?_set_self (by omega), q1]
        · rw [List.getElem?_set_ne hk]
      rw [hσ] at r1
      refine q _ (upd F a (.lst vs)) H (by simp [hl]) ⟨sm, fun b hb => ?_, fun _ hb => hb⟩ (r1.store at1 (by omega))
      rw [upd_ne]
      rintro rfl
      rcases hb with hb | ⟨hu, e⟩
      · exact hb q3
      · exact q2 hu e
    · cases h
  · cases h
/-- x.append(e) -/
def xApp (i : Nat) (fe : FE) : FS := fun s p => match s[i]? with
  | some (.ol xs) => (fe s p).bind fun x => if xs.length < 1000000 then some (.nx (s.set i (.ol (xs ++ [x.1]))) x.2) else none
  | _ => none
theorem lt6 {n : Nat} (h : n < 1000000) : n < sizeLine := by rw [sizeLine_eq]; omega
theorem sd_app {i : Nat} {x : Str} {fe : FE} {p1 p2 p3 : Pos} (he : ED X e fe) (hi : X.N[i]? = some x := by rfl) (hv : Vis X.env.scope x := by first | exact Or.inl rfl | exact Or.inr (Or.inl rfl) | exact Or.inr (Or.inr rfl))
    (hd : (x == ("__debug__" : Str)) = false := by decide) (hcd : (x == ("__classdict__" : Str)) = false := by decide) (hst : starEach (e :: []) X.env = (false, eval e X.env) :: starEach [] X.env := by rfl)
    (hbase : attributeBase (.Name x p1) "append" X.env (eval (.Name x p1) X.env) = eval (.Name x p1) X.env := by rfl)
    (hfew : ((backTo p3 (starEach (e :: []) X.env)).all (fun x => !x.1) && (backToKw p3 (keywordEach [] X.env)).all (fun x => x.1.isSome)
      && decide ((e :: []).length + ([] : List Keyword).length + (if ([] : List Keyword).isEmpty then 0 else 1) < 30)) = true := by rfl)
    (hline : (p2.endLine == p3.line) = true := by rfl) (hplain : (backTo p3 (starEach [] X.env)).any (·.1) = false := by rfl)
    (hs : swapsWith (.Call (.Attribute (.Name x p1) "append" p2) [e] [] p3) none pos.line X.env = pure false := by rfl) : SD X (.Expr (.Call (.Attribute (.Name x p1) "append" p2) [e] [] p3) pos) (xApp i fe) := by
  obtain ⟨te, pe, se⟩ := he
  refine ⟨_, ps_expr (pe_bm PySem.F.plainAttrs_list PySem.F.slot_list_append PySem.F.type_list_append mt_append (pe_var hi hv hd hcd) (pa_cons pe pa_nil hst) hbase hfew hline hst hplain) hs, fun W F σ s p H Dn o r hl h q => ?_⟩
  unfold xApp at h
  split at h
  · rename_i xs hsi
    cases e1 : fe s p with
    | none => rw [e1] at h; cases h
    | some y =>
      rw [e1] at h
      change (if xs.length < 1000000 then some (Out.nx (s.set i (.ol (xs ++ [y.1]))) y.2) else none) = some o at h
      split at h
      · rename_i hlen
        cases h
        obtain ⟨a, ob, q1, q2, q3, q4, q5, vs, rfl, q6⟩ := r.slot i _ hsi
        refine ⟨.ref a, q1, .inl ⟨rfl, _, .inl (.inl q5)⟩, se W F σ s p H _ y.1 y.2 r e1 fun v F1 H1 x1 r1 a1 => ?_⟩
        obtain ⟨a', ob, w1, w2, w3, w4, w5, us, rfl, w6⟩ := r1.slot i _ hsi
        have ea : a' = a := by rw [q1] at w1; cases w1; rfl
        subst ea
        refine ⟨a', us, v, rfl, rfl, w5, by rw [← AtL.len w6]; exact lt6 hlen, ?_⟩
        refine q σ F1 _ (by simp [hl]) ((x1.trans (Ext.heap grow_upd)).s r) (r1.ownSet hsi rfl q1 ⟨_, rfl, AtL.app w6 (AtL.one a1)⟩)
      · cases h
  · cases h
end
end DL

namespace DL
open PySem L2 PyProof.Rows

/-- b: a list (true) or a tuple -/
def SqA (K : PySem.W.Frag) (b : Bool) (H : Hp) (a : Addr) (xs : List V) : Prop := if b = true then SqL K H a xs else SqT K H a xs
def ContA (b : Bool) (h : Heap) (a : Addr) (items : Array Value) : Prop := if b = true then h.IsList a items else h.IsTuple a items
def ItA (b : Bool) (h : Heap) (it a : Addr) (i : Nat) : Prop := if b = true then h.IsListIter it a i else h.IsTupleIter it a i
def objA (b : Bool) (a : Addr) : Obj := if b = true then { cls := .type "list_iterator", data := .fields #[.ref a, .int 0 0] } else { cls := .type "tuple_iterator", data := .fields #[.ref a, .int 0 0] }
theorem drawsA {prog : Program} {w : World} {A : Around} (hh : A.handled = none) (b : Bool) (it a : Addr) (hne : a ≠ it) (items : Array Value) :
    Draws prog w A it [it, a] items.size (fun i v => items[i]? = some v) (fun i h => ItA b h it a i ∧ ContA b h a items) := by
  cases b with
  | true => exact Draws.list hh it a hne items
  | false => exact Draws.tuple hh it a hne items
theorem beginsA (b : Bool) (a : Addr) (items : Array Value) : Begins (.ref a) (objA b a) fun h => ContA b h a items := by
  cases b with
  | true => exact begins_list a items
  | false => exact begins_tuple a items
theorem itA_obj {b : Bool} {h : Heap} {it a : Addr} {i : Nat} (x : ItA b h it a i) : ∃ o, h.get? it = some o ∧ ∀ v, o.data ≠ .cell v := by
  cases b with
  | true => obtain ⟨o, e, c, d⟩ := x; exact ⟨o, e, fun v z => by rw [d] at z; cases z⟩
  | false => obtain ⟨o, e, c, d⟩ := x; exact ⟨o, e, fun v z => by rw [d] at z; cases z⟩
theorem itA_at {b : Bool} {h h' : Heap} {it a : Addr} {i : Nat} (x : ItA b h it a i) (k : ∀ o, h.get? it = some o → h'.get? it = some o) : ItA b h' it a i := by
  cases b with
  | true => exact Heap.IsListIter.at x k
  | false => exact Heap.IsTupleIter.at x k
theorem itA_new {b : Bool} {h : Heap} {it a : Addr} (e : h.get? it = some (objA b a)) : ItA b h it a 0 := by
  cases b with
  | true => exact ⟨_, e, rfl, rfl⟩
  | false => exact ⟨_, e, rfl, rfl⟩
theorem Inv.seqA {X : Cx} {pins : List (Addr × Obj)} {σ : L2.St} {H : Hp} {s : Shared} {b : Bool} {a : Addr} {xs : List V} (I : Inv X pins σ H s) (h : SqA X.K b H a xs) : ∃ its : List Value, Vals xs its ∧ ContA b s.heap a its.toArray ∧ xs.length ≤ sizeLine ∧ a < s.heap.objs.size := by
  cases b with
  | true =>
    obtain ⟨its, r, p, z⟩ := I.list h
    exact ⟨its, r, p.isList, z, p.lt⟩
  | false =>
    obtain ⟨its, r, p, z⟩ := I.tuple h
    exact ⟨its, r, p, z, p.lt⟩

theorem contA_ne {b c : Bool} {h : Heap} {it a a' : Addr} {i : Nat} {items : Array Value} (x : ContA b h a items) (y : ItA c h it a' i) : a ≠ it := by
  rintro rfl
  cases b with
  | true =>
    obtain ⟨o, e, cl, _⟩ := x
    cases c with
    | true => obtain ⟨o', e', cl', _⟩ := y; rw [e] at e'; cases e'; rw [cl] at cl'; exact absurd (Value.type.inj cl') (by decide)
    | false => obtain ⟨o', e', cl', _⟩ := y; rw [e] at e'; cases e'; rw [cl] at cl'; exact absurd (Value.type.inj cl') (by decide)
  | false =>
    obtain ⟨o, e, cl, _⟩ := x
    cases c with
    | true => obtain ⟨o', e', cl', _⟩ := y; rw [e] at e'; cases e'; rw [cl] at cl'; exact absurd (Value.type.inj cl') (by decide)
    | false => obtain ⟨o', e', cl', _⟩ := y; rw [e] at e'; cases e'; rw [cl] at cl'; exact absurd (Value.type.inj cl') (by decide)
theorem objA_ne {b c : Bool} {h : Heap} {a it a' : Addr} {items : Array Value} (x : ContA b h a items) (e : h.get? it = some (objA c a')) : a ≠ it := contA_ne x (itA_new e)

/-- the sequences at a1, a2 .. , the items in new tuples -/
def ItZ2 (K : PySem.W.Frag) (b1 b2 : Bool) (a1 a2 : Addr) (xs1 xs2 : List V) : It :=
  ⟨fun i H => i < min xs1.length xs2.length ∧ SqA K b1 H a1 xs1 ∧ SqA K b2 H a2 xs2,
    fun i H v H' => ∃ T x1 x2, v = .ref T ∧ H T = none ∧ H' = upd H T (.tup [x1, x2]) ∧ xs1[i]? = some x1 ∧ xs2[i]? = some x2,
    fun i H => i = min xs1.length xs2.length ∧ SqA K b1 H a1 xs1 ∧ SqA K b2 H a2 xs2⟩
theorem turn_Z2 {P : Program} {w : World} {K : PySem.W.Frag} {elts : List Expr} {kk : Nat} {tpos : Pos} {b1 b2 : Bool} {a1 a2 z TI TO i1 i2 : Addr} {xs1 xs2 : List V} (S : ZipSep2 z TI TO i1 i2 [i1, a1] [i2, a2]) :
    Turn P w K (.Tuple elts kk tpos) (ItZ2 K b1 b2 a1 a2 xs1 xs2) [z, TI, TO, i1, i2] z (fun i h => IsZip h z TI TO .none ∧ IsTupOf2 h TI (.ref i1) (.ref i2) ∧ (∃ w1 w2, IsTupOf2 h TO w1 w2) ∧ ItA b1 h i1 a1 i ∧ ItA b2 h i2 a2 i) where
  mem := by simp
  obj := fun i h st c hc => by
    obtain ⟨hz, hTI, ⟨w1, w2, hTO⟩, h1, h2⟩ := st
    have e' : c = z ∨ c = TI ∨ c = TO ∨ c = i1 ∨ c = i2 := by simpa using hc
    rcases e' with q | q | q | q | q
    · rw [q]; exact ⟨_, hz, fun v q => nomatch q⟩
    · rw [q]; exact ⟨_, hTI, fun v q => nomatch q⟩
    · rw [q]; exact ⟨_, hTO, fun v q => nomatch q⟩
    · rw [q]; exact itA_obj h1
    · rw [q]; exact itA_obj h2
  keep := fun i h h' st k => by
    obtain ⟨hz, hTI, ⟨w1, w2, hTO⟩, h1, h2⟩ := st
    exact ⟨k z (by simp) _ hz, k TI (by simp) _ hTI, ⟨w1, w2, k TO (by simp) _ hTO⟩, itA_at h1 fun o q => k i1 (by simp) o q, itA_at h2 fun o q => k i2 (by simp) o q⟩
  item := by
    intro X hP hw hK hc i pins s σ H E I hf st hg
    subst hP hw hK
    obtain ⟨hz, hTI, hTO, h1, h2⟩ := st
    obtain ⟨hi, g1, g2⟩ := hg
    obtain ⟨its1, rv1, p1, _, _⟩ := Inv.seqA I g1
    obtain ⟨its2, rv2, p2, _, _⟩ := Inv.seqA I g2
    have l1 := rv1.length
    have l2 := rv2.length
    have hh : X.A.in1.handled = none := I.ok.hd hc
    have G := GoesN.zip2 (prog := X.prog) (w := X.w) (A := X.A) (elts := elts) (x1 := kk) (pos := tpos) S (drawsA hh b1 i1 a1 (contA_ne p1 h1) its1.toArray) (drawsA hh b2 i2 a2 (contA_ne p2 h2) its2.toArray)
    refine G.goes i s _ _ (by simp only [List.size_toArray]; omega) ⟨hz, hTI, hTO, ⟨h1, p1⟩, ⟨h2, p2⟩⟩ fun v h' tk hY st' hk _ => ?_
    obtain ⟨T, u1, u2, rfl, hT0, e1, e2, hT⟩ := hY
    obtain ⟨hz', hTI', hTO', ⟨h1x, _⟩, ⟨h2x, _⟩⟩ := st'
    obtain ⟨x1, v1, r1⟩ : ∃ x, xs1[i]? = some x ∧ RelV x u1 := by
      have hlt : i < xs1.length := by omega
      obtain ⟨u, hu, ru⟩ := rv1.get (List.getElem?_eq_getElem hlt)
      have e : some u = some u1 := hu.symm.trans (by simpa using e1)
      cases e
      exact ⟨_, List.getElem?_eq_getElem hlt, ru⟩
    obtain ⟨x2, v2, r2⟩ : ∃ x, xs2[i]? = some x ∧ RelV x u2 := by
      have hlt : i < xs2.length := by omega
      obtain ⟨u, hu, ru⟩ := rv2.get (List.getElem?_eq_getElem hlt)
      have e : some u = some u2 := hu.symm.trans (by simpa using e2)
      cases e
      exact ⟨_, List.getElem?_eq_getElem hlt, ru⟩
    have new : ObjOk X.prog X.w (upd H T (.tup [x1, x2])) h' T (.tup [x1, x2]) :=
      ⟨by show 2 ≤ sizeLine; decide, [u1, u2], .cons r1 (.cons r2 .nil), hT⟩
    have hTn : H T = none := I.hok.fresh hT0
    have I1 : Inv X pins σ (upd H T (.tup [x1, x2])) { s with heap := h', toks := tk } :=
      I.turnedNew (ch := [z, TI, TO, i1, i2]) (fun c o hb q => hk c o (fun z => hb (by
        simp only [List.mem_cons, List.not_mem_nil, or_false] at z ⊢
        rcases z with z | z | z | z <;> simp [z])) q) hf hT0 new
    refine ⟨.ref T, _, I1, rfl, ⟨T, x1, x2, rfl, hTn, rfl, v1, v2⟩, ⟨hz', hTI', hTO', h1x, h2x⟩, fun c hcm => ?_⟩
    have hc0 := (hf c hcm).1
    have hlt : c < s.heap.objs.size := by
      have st0 : IsZip s.heap z TI TO .none := hz
      have e' : c = z ∨ c = TI ∨ c = TO ∨ c = i1 ∨ c = i2 := by simpa using hcm
      obtain ⟨w1, w2, hTO⟩ := hTO
      rcases e' with q | q | q | q | q
      · rw [q]; exact Heap.lt_size hz
      · rw [q]; exact Heap.lt_size hTI
      · rw [q]; exact Heap.lt_size hTO
      · rw [q]; obtain ⟨o, eo, _⟩ := itA_obj h1; exact Heap.lt_size eo
      · rw [q]; obtain ⟨o, eo, _⟩ := itA_obj h2; exact Heap.lt_size eo
    rw [upd_ne (Nat.ne_of_lt (Nat.lt_of_lt_of_le hlt hT0))]
    exact hc0
  done := by
    intro X hP hw hK hc i pins s σ H E I hf st hg
    subst hP hw hK
    obtain ⟨hz, hTI, hTO, h1, h2⟩ := st
    obtain ⟨hi, g1, g2⟩ := hg
    subst hi
    obtain ⟨its1, rv1, p1, _, _⟩ := Inv.seqA I g1
    obtain ⟨its2, rv2, p2, _, _⟩ := Inv.seqA I g2
    have l1 := rv1.length
    have l2 := rv2.length
    have hh : X.A.in1.handled = none := I.ok.hd hc
    have G := GoesN.zip2 (prog := X.prog) (w := X.w) (A := X.A) (elts := elts) (x1 := kk) (pos := tpos) S (drawsA hh b1 i1 a1 (contA_ne p1 h1) its1.toArray) (drawsA hh b2 i2 a2 (contA_ne p2 h2) its2.toArray)
    have em : min its1.toArray.size its2.toArray.size = min xs1.length xs2.length := by simp only [List.size_toArray]; omega
    rw [em] at G
    refine G.stops s _ _ ⟨hz, hTI, hTO, ⟨h1, p1⟩, ⟨h2, p2⟩⟩ fun h' tk hk _ => ?_
    exact I.turnedL (ch := [z, TI, TO, i1, i2]) (fun c o hb q => hk c o (fun z => hb (by
        simp only [List.mem_cons, List.not_mem_nil, or_false] at z ⊢
        rcases z with z | z | z | z <;> simp [z])) q) hf
  self := fun A i s Q E st h => wpAny_pyIter_zip st.1 h
def iZ2 (K : PySem.W.Frag) (ta : TA) : TI := fun σ H R => ta σ H fun vs H1 => ∃ b1 b2 a1 a2 xs1 xs2, vs = [.ref a1, .ref a2] ∧ SqA K b1 H1 a1 xs1 ∧ SqA K b2 H1 a2 xs2 ∧
  (xs1.length ≤ sizeLine → xs2.length ≤ sizeLine → R (ItZ2 K b1 b2 a1 a2 xs1 xs2) H1)
theorem pi_Z2 {X : Cx} {e1 e2 : Expr} {ta : TA} {p pos tpos : Pos} {elts : List Expr} {kk : Nat} (hg : Gl X "zip") (hm : X.mg "zip" = none) (ha : PA X [e1, e2] ta)
    (hs : starEach [e1, e2] X.env = (false, eval e1 X.env) :: starEach [e2] X.env := by rfl) (hpl : (backTo pos (starEach [e2] X.env)).any (·.1) = false := by rfl) :
    PI X (.Tuple elts kk tpos) (.Call (.Name "zip" p) [e1, e2] [] pos) (iZ2 X.K ta) := by
  refine ⟨fun pins s σ H R I h => ?_⟩
  refine Call_ (ld_blt I hg hm PyProof.Rows.boot_zip (PyProof.Rows.callWith_type1 (thn (ha.run pos pins s σ H _ I h) fun us s1 ⟨vs, H1, I1, r1, q1⟩ => ?_) hs hpl))
  obtain ⟨b1, b2, a1, a2, xs1, xs2, ex, g1, g2, q⟩ := q1
  subst ex
  cases r1 with
  | cons t1 rr =>
    cases rr with
    | cons t2 rr =>
      cases rr
      cases t1
      cases t2
      obtain ⟨its1, rv1, p1, z1, lt1⟩ := Inv.seqA I1 g1
      obtain ⟨its2, rv2, p2, z2, lt2⟩ := Inv.seqA I1 g2
      refine zip_begins2 (beginsA b1 a1 its1.toArray) (beginsA b2 a2 its2.toArray) p1 p2 fun h' hz hTI hTO o1 o2 hsz hk => wpAny_pyIter_zip hz ?_
      have I2 : Inv X pins σ H1 { s1 with heap := h' } := I1.kept (t' := s1.toks) hk
      have S : ZipSep2 (s1.heap.objs.size + 4) (s1.heap.objs.size + 2) (s1.heap.objs.size + 3) s1.heap.objs.size (s1.heap.objs.size + 1) [s1.heap.objs.size, a1] [s1.heap.objs.size + 1, a2] :=
        zip_sep2 (fp1 := [a1]) (fp2 := [a2]) (fun b hb => by rw [List.mem_singleton.mp hb]; exact lt1) (fun b hb => by rw [List.mem_singleton.mp hb]; exact lt2)
      refine ⟨s1.heap.objs.size + 4, [s1.heap.objs.size + 4, s1.heap.objs.size + 2, s1.heap.objs.size + 3, s1.heap.objs.size, s1.heap.objs.size + 1], _, _, H1, rfl, I2, turn_Z2 S, ⟨hz, hTI, ⟨_, _, hTO⟩, itA_new o1, itA_new o2⟩, fun c hcm => ?_, q z1 z2⟩
      have hle : s1.heap.objs.size ≤ c := by
        have e' : c = s1.heap.objs.size + 4 ∨ c = s1.heap.objs.size + 2 ∨ c = s1.heap.objs.size + 3 ∨ c = s1.heap.objs.size ∨ c = s1.heap.objs.size + 1 := by simpa using hcm
        rcases e' with z | z | z | z | z <;> rw [z] <;> first | exact Nat.le_refl _ | exact Nat.le_add_right _ _
      exact I1.fpOk hle (I1.hok.fresh hle)

/-- the sequences at a1, a2 .. , the items in new tuples -/
def ItZ3 (K : PySem.W.Frag) (b1 b2 b3 : Bool) (a1 a2 a3 : Addr) (xs1 xs2 xs3 : List V) : It :=
  ⟨fun i H => i < min (min xs1.length xs2.length) xs3.length ∧ SqA K b1 H a1 xs1 ∧ SqA K b2 H a2 xs2 ∧ SqA K b3 H a3 xs3,
    fun i H v H' => ∃ T x1 x2 x3, v = .ref T ∧ H T = none ∧ H' = upd H T (.tup [x1, x2, x3]) ∧ xs1[i]? = some x1 ∧ xs2[i]? = some x2 ∧ xs3[i]? = some x3,
    fun i H => i = min (min xs1.length xs2.length) xs3.length ∧ SqA K b1 H a1 xs1 ∧ SqA K b2 H a2 xs2 ∧ SqA K b3 H a3 xs3⟩
theorem turn_Z3 {P : Program} {w : World} {K : PySem.W.Frag} {elts : List Expr} {kk : Nat} {tpos : Pos} {b1 b2 b3 : Bool} {a1 a2 a3 z TI TO i1 i2 i3 : Addr} {xs1 xs2 xs3 : List V} (S : ZipSep3 z TI TO i1 i2 i3 [i1, a1] [i2, a2] [i3, a3]) :
    Turn P w K (.Tuple elts kk tpos) (ItZ3 K b1 b2 b3 a1 a2 a3 xs1 xs2 xs3) [z, TI, TO, i1, i2, i3] z (fun i h => IsZip h z TI TO .none ∧ IsTupOf3 h TI (.ref i1) (.ref i2) (.ref i3) ∧ (∃ w1 w2 w3, IsTupOf3 h TO w1 w2 w3) ∧ ItA b1 h i1 a1 i ∧ ItA b2 h i2 a2 i ∧ ItA b3 h i3 a3 i) where
  mem := by simp
  obj := fun i h st c hc => by
    obtain ⟨hz, hTI, ⟨w1, w2, w3, hTO⟩, h1, h2, h3⟩ := st
    have e' : c = z ∨ c = TI ∨ c = TO ∨ c = i1 ∨ c = i2 ∨ c = i3 := by simpa using hc
    rcases e' with q | q | q | q | q | q
    · rw [q]; exact ⟨_, hz, fun v q => nomatch q⟩
    · rw [q]; exact ⟨_, hTI, fun v q => nomatch q⟩
    · rw [q]; exact ⟨_, hTO, fun v q => nomatch q⟩
    · rw [q]; exact itA_obj h1
    · rw [q]; exact itA_obj h2
    · rw [q]; exact itA_obj h3
  keep := fun i h h' st k => by
    obtain ⟨hz, hTI, ⟨w1, w2, w3, hTO⟩, h1, h2, h3⟩ := st
    exact ⟨k z (by simp) _ hz, k TI (by simp) _ hTI, ⟨w1, w2, w3, k TO (by simp) _ hTO⟩, itA_at h1 fun o q => k i1 (by simp) o q, itA_at h2 fun o q => k i2 (by simp) o q, itA_at h3 fun o q => k i3 (by simp) o q⟩
  item := by
    intro X hP hw hK hc i pins s σ H E I hf st hg
    subst hP hw hK
    obtain ⟨hz, hTI, hTO, h1, h2, h3⟩ := st
    obtain ⟨hi, g1, g2, g3⟩ := hg
    obtain ⟨its1, rv1, p1, _, _⟩ := Inv.seqA I g1
    obtain ⟨its2, rv2, p2, _, _⟩ := Inv.seqA I g2
    obtain ⟨its3, rv3, p3, _, _⟩ := Inv.seqA I g3
    have l1 := rv1.length
    have l2 := rv2.length
    have l3 := rv3.length
    have hh : X.A.in1.handled = none := I.ok.hd hc
    have G := GoesN.zip3 (prog := X.prog) (w := X.w) (A := X.A) (elts := elts) (x1 := kk) (pos := tpos) S (drawsA hh b1 i1 a1 (contA_ne p1 h1) its1.toArray) (drawsA hh b2 i2 a2 (contA_ne p2 h2) its2.toArray) (drawsA hh b3 i3 a3 (contA_ne p3 h3) its3.toArray)
    refine G.goes i s _ _ (by simp only [List.size_toArray]; omega) ⟨hz, hTI, hTO, ⟨h1, p1⟩, ⟨h2, p2⟩, ⟨h3, p3⟩⟩ fun v h' tk hY st' hk _ => ?_
    obtain ⟨T, u1, u2, u3, rfl, hT0, e1, e2, e3, hT⟩ := hY
    obtain ⟨hz', hTI', hTO', ⟨h1x, _⟩, ⟨h2x, _⟩, ⟨h3x, _⟩⟩ := st'
    obtain ⟨x1, v1, r1⟩ : ∃ x, xs1[i]? = some x ∧ RelV x u1 := by
      have hlt : i < xs1.length := by omega
      obtain ⟨u, hu, ru⟩ := rv1.get (List.getElem?_eq_getElem hlt)
      have e : some u = some u1 := hu.symm.trans (by simpa using e1)
      cases e
      exact ⟨_, List.getElem?_eq_getElem hlt, ru⟩
    obtain ⟨x2, v2, r2⟩ : ∃ x, xs2[i]? = some x ∧ RelV x u2 := by
      have hlt : i < xs2.length := by omega
      obtain ⟨u, hu, ru⟩ := rv2.get (List.getElem?_eq_getElem hlt)
      have e : some u = some u2 := hu.symm.trans (by simpa using e2)
      cases e
      exact ⟨_, List.getElem?_eq_getElem hlt, ru⟩
    obtain ⟨x3, v3, r3⟩ : ∃ x, xs3[i]? = some x ∧ RelV x u3 := by
      have hlt : i < xs3.length := by omega
      obtain ⟨u, hu, ru⟩ := rv3.get (List.getElem?_eq_getElem hlt)
      have e : some u = some u3 := hu.symm.trans (by simpa using e3)
      cases e
      exact ⟨_, List.getElem?_eq_getElem hlt, ru⟩
    have new : ObjOk X.prog X.w (upd H T (.tup [x1, x2, x3])) h' T (.tup [x1, x2, x3]) :=
      ⟨by show 3 ≤ sizeLine; decide, [u1, u2, u3], .cons r1 (.cons r2 (.cons r3 .nil)), hT⟩
    have hTn : H T = none := I.hok.fresh hT0
    have I1 : Inv X pins σ (upd H T (.tup [x1, x2, x3])) { s with heap := h', toks := tk } :=
      I.turnedNew (ch := [z, TI, TO, i1, i2, i3]) (fun c o hb q => hk c o (fun z => hb (by
        simp only [List.mem_cons, List.not_mem_nil, or_false] at z ⊢
        rcases z with z | z | z | z | z <;> simp [z])) q) hf hT0 new
    refine ⟨.ref T, _, I1, rfl, ⟨T, x1, x2, x3, rfl, hTn, rfl, v1, v2, v3⟩, ⟨hz', hTI', hTO', h1x, h2x, h3x⟩, fun c hcm => ?_⟩
    have hc0 := (hf c hcm).1
    have hlt : c < s.heap.objs.size := by
      have st0 : IsZip s.heap z TI TO .none := hz
      have e' : c = z ∨ c = TI ∨ c = TO ∨ c = i1 ∨ c = i2 ∨ c = i3 := by simpa using hcm
      obtain ⟨w1, w2, w3, hTO⟩ := hTO
      rcases e' with q | q | q | q | q | q
      · rw [q]; exact Heap.lt_size hz
      · rw [q]; exact Heap.lt_size hTI
      · rw [q]; exact Heap.lt_size hTO
      · rw [q]; obtain ⟨o, eo, _⟩ := itA_obj h1; exact Heap.lt_size eo
      · rw [q]; obtain ⟨o, eo, _⟩ := itA_obj h2; exact Heap.lt_size eo
      · rw [q]; obtain ⟨o, eo, _⟩ := itA_obj h3; exact Heap.lt_size eo
    rw [upd_ne (Nat.ne_of_lt (Nat.lt_of_lt_of_le hlt hT0))]
    exact hc0
  done := by
    intro X hP hw hK hc i pins s σ H E I hf st hg
    subst hP hw hK
    obtain ⟨hz, hTI, hTO, h1, h2, h3⟩ := st
    obtain ⟨hi, g1, g2, g3⟩ := hg
    subst hi
    obtain ⟨its1, rv1, p1, _, _⟩ := Inv.seqA I g1
    obtain ⟨its2, rv2, p2, _, _⟩ := Inv.seqA I g2
    obtain ⟨its3, rv3, p3, _, _⟩ := Inv.seqA I g3
    have l1 := rv1.length
    have l2 := rv2.length
    have l3 := rv3.length
    have hh : X.A.in1.handled = none := I.ok.hd hc
    have G := GoesN.zip3 (prog := X.prog) (w := X.w) (A := X.A) (elts := elts) (x1 := kk) (pos := tpos) S (drawsA hh b1 i1 a1 (contA_ne p1 h1) its1.toArray) (drawsA hh b2 i2 a2 (contA_ne p2 h2) its2.toArray) (drawsA hh b3 i3 a3 (contA_ne p3 h3) its3.toArray)
    have em : min (min its1.toArray.size its2.toArray.size) its3.toArray.size = min (min xs1.length xs2.length) xs3.length := by simp only [List.size_toArray]; omega
    rw [em] at G
    refine G.stops s _ _ ⟨hz, hTI, hTO, ⟨h1, p1⟩, ⟨h2, p2⟩, ⟨h3, p3⟩⟩ fun h' tk hk _ => ?_
    exact I.turnedL (ch := [z, TI, TO, i1, i2, i3]) (fun c o hb q => hk c o (fun z => hb (by
        simp only [List.mem_cons, List.not_mem_nil, or_false] at z ⊢
        rcases z with z | z | z | z | z <;> simp [z])) q) hf
  self := fun A i s Q E st h => wpAny_pyIter_zip st.1 h
def iZ3 (K : PySem.W.Frag) (ta : TA) : TI := fun σ H R => ta σ H fun vs H1 => ∃ b1 b2 b3 a1 a2 a3 xs1 xs2 xs3, vs = [.ref a1, .ref a2, .ref a3] ∧ SqA K b1 H1 a1 xs1 ∧ SqA K b2 H1 a2 xs2 ∧ SqA K b3 H1 a3 xs3 ∧
  (xs1.length ≤ sizeLine → xs2.length ≤ sizeLine → xs3.length ≤ sizeLine → R (ItZ3 K b1 b2 b3 a1 a2 a3 xs1 xs2 xs3) H1)
theorem pi_Z3 {X : Cx} {e1 e2 e3 : Expr} {ta : TA} {p pos tpos : Pos} {elts : List Expr} {kk : Nat} (hg : Gl X "zip") (hm : X.mg "zip" = none) (ha : PA X [e1, e2, e3] ta)
    (hs : starEach [e1, e2, e3] X.env = (false, eval e1 X.env) :: starEach [e2, e3] X.env := by rfl) (hpl : (backTo pos (starEach [e2, e3] X.env)).any (·.1) = false := by rfl) :
    PI X (.Tuple elts kk tpos) (.Call (.Name "zip" p) [e1, e2, e3] [] pos) (iZ3 X.K ta) := by
  refine ⟨fun pins s σ H R I h => ?_⟩
  refine Call_ (ld_blt I hg hm PyProof.Rows.boot_zip (PyProof.Rows.callWith_type1 (thn (ha.run pos pins s σ H _ I h) fun us s1 ⟨vs, H1, I1, r1, q1⟩ => ?_) hs hpl))
  obtain ⟨b1, b2, b3, a1, a2, a3, xs1, xs2, xs3, ex, g1, g2, g3, q⟩ := q1
  subst ex
  cases r1 with
  | cons t1 rr =>
    cases rr with
    | cons t2 rr =>
      cases rr with
      | cons t3 rr =>
        cases rr
        cases t1
        cases t2
        cases t3
        obtain ⟨its1, rv1, p1, z1, lt1⟩ := Inv.seqA I1 g1
        obtain ⟨its2, rv2, p2, z2, lt2⟩ := Inv.seqA I1 g2
        obtain ⟨its3, rv3, p3, z3, lt3⟩ := Inv.seqA I1 g3
        refine zip_begins3 (beginsA b1 a1 its1.toArray) (beginsA b2 a2 its2.toArray) (beginsA b3 a3 its3.toArray) p1 p2 p3 fun h' hz hTI hTO o1 o2 o3 hsz hk => wpAny_pyIter_zip hz ?_
        have I2 : Inv X pins σ H1 { s1 with heap := h' } := I1.kept (t' := s1.toks) hk
        have S : ZipSep3 (s1.heap.objs.size + 5) (s1.heap.objs.size + 3) (s1.heap.objs.size + 4) s1.heap.objs.size (s1.heap.objs.size + 1) (s1.heap.objs.size + 2) [s1.heap.objs.size, a1] [s1.heap.objs.size + 1, a2] [s1.heap.objs.size + 2, a3] :=
          zip_sep3 (fp1 := [a1]) (fp2 := [a2]) (fp3 := [a3]) (fun b hb => by rw [List.mem_singleton.mp hb]; exact lt1) (fun b hb => by rw [List.mem_singleton.mp hb]; exact lt2) (fun b hb => by rw [List.mem_singleton.mp hb]; exact lt3)
        refine ⟨s1.heap.objs.size + 5, [s1.heap.objs.size + 5, s1.heap.objs.size + 3, s1.heap.objs.size + 4, s1.heap.objs.size, s1.heap.objs.size + 1, s1.heap.objs.size + 2], _, _, H1, rfl, I2, turn_Z3 S, ⟨hz, hTI, ⟨_, _, _, hTO⟩, itA_new o1, itA_new o2, itA_new o3⟩, fun c hcm => ?_, q z1 z2 z3⟩
        have hle : s1.heap.objs.size ≤ c := by
          have e' : c = s1.heap.objs.size + 5 ∨ c = s1.heap.objs.size + 3 ∨ c = s1.heap.objs.size + 4 ∨ c = s1.heap.objs.size ∨ c = s1.heap.objs.size + 1 ∨ c = s1.heap.objs.size + 2 := by simpa using hcm
          rcases e' with z | z | z | z | z | z <;> rw [z] <;> first | exact Nat.le_refl _ | exact Nat.le_add_right _ _
        exact I1.fpOk hle (I1.hok.fresh hle)
end DL

namespace DL
open PySem L2

section
variable {X : Cx} {K : PySem.W.Frag} {tg : Expr} {pos : Pos}
def iSeqZ (K : PySem.W.Frag) (tl : TE) : TI := fun σ H R => tl σ H fun x H1 => ∃ b a xs, x = .ref a ∧ SqA K b H1 a xs ∧ (xs.length ≤ sizeLine → R (if b = true then Itl K a else Itt K a) H1)
theorem pi_seqZ {l : Expr} {tl : TE} (hl : PE X l tl) : PI X tg l (iSeqZ X.K tl) := by
  refine ⟨fun pins s σ H R I h => ?_⟩
  refine thn (hl.run pins s σ H _ I h) fun v s1 ⟨x, H1, I1, r1, q1⟩ => ?_
  obtain ⟨b, a, xs, e, hq, q⟩ := q1
  subst e
  cases r1
  cases b with
  | true =>
    obtain ⟨its, rv, p, hz⟩ := I1.list hq
    refine wpAny_pyIter_list p.isList ?_
    refine ⟨s1.heap.objs.size, [s1.heap.objs.size], _, _, H1, rfl, I1.kept (t' := s1.toks) fun b o e => Heap.get?_push_of_some _ e, turn_list a _, ⟨_, Heap.get?_push_size _ rfl, rfl, rfl⟩, fun b hb => ?_, q hz⟩
    have e : b = s1.heap.objs.size := by simpa using hb
    subst e
    exact I1.fpOk (Nat.le_refl _) (I1.hok.fresh (Nat.le_refl _))
  | false =>
    obtain ⟨its, rv, p, hz⟩ := I1.tuple hq
    refine wpAny_pyIter_tuple (show s1.heap.IsTuple a its.toArray from p) ?_
    refine ⟨s1.heap.objs.size, [s1.heap.objs.size], _, _, H1, rfl, I1.kept (t' := s1.toks) fun b o e => Heap.get?_push_of_some _ e, turn_tuple a _, ⟨_, Heap.get?_push_size _ rfl, rfl, rfl⟩, fun b hb => ?_, q hz⟩
    have e : b = s1.heap.objs.size := by simpa using hb
    subst e
    exact I1.fpOk (Nat.le_refl _) (I1.hok.fresh (Nat.le_refl _))
/-- the items of a list or a tuple -/
def seqOf : D → Option (List D)
  | .lst xs => some xs
  | .tup xs => some xs
  | .ro xs => some xs
  | _ => none
def fSeq (fe : FE) : FA := fun s p => (fe s p).bind fun x => (seqOf x.1).map fun ds => (ds, x.2)
theorem sqA_of {F : Hp} {d : D} {v : V} {ds : List D} (h : At K F d v) (e : seqOf d = some ds) : ∃ b a xs, v = .ref a ∧ SqA K b F a xs ∧ AtL K F ds xs := by
  unfold seqOf at e
  split at e
  · cases e
    obtain ⟨a, vs, rfl, h1, h2⟩ := h
    exact ⟨true, a, vs, rfl, SqL.of h1, h2⟩
  · cases e
    obtain ⟨a, vs, rfl, h1, h2⟩ := h
    exact ⟨false, a, vs, rfl, SqT.of h1, h2⟩
  · cases e
    obtain ⟨a, vs, rfl, h1, h2⟩ := h
    exact ⟨true, a, vs, rfl, h1, h2⟩
  · cases e
theorem SqA.mono {F F' : Hp} {b : Bool} {a : Addr} {xs : List V} (e : Same F F') (h : SqA K b F a xs) : SqA K b F' a xs := by
  cases b with
  | true => exact e.seq h
  | false => exact same_t e h
theorem wlk_seq {F : Hp} {b : Bool} {a : Addr} {xs : List V} {ds : List D} (h : SqA K b F a xs) (hd : AtL K F ds xs) (hz : xs.length ≤ sizeLine) : Wlk K (if b = true then Itl K a else Itt K a) F ds := by
  have hl := AtL.len hd
  cases b with
  | true =>
    refine ⟨by omega, fun i H sm hi => ?_, fun H sm => ⟨xs, sm.seq h, by omega⟩, fun i H x H' F1 s1 s2 hi y => ?_⟩
    · have : i < xs.length := by omega
      exact ⟨xs, xs[i], sm.seq h, List.getElem?_eq_getElem this⟩
    · obtain ⟨e, y⟩ := y
      subst e
      have e2 := y xs (s2.seq (s1.seq h))
      obtain ⟨d, e3, ad⟩ := hd.getV e2
      exact ⟨F1, d, e3, Ext.refl _ _, Same.refl _, s2, At.mono s1 _ _ ad⟩
  | false =>
    refine ⟨by omega, fun i H sm hi => ?_, fun H sm => ⟨xs, same_t sm h, by omega⟩, fun i H x H' F1 s1 s2 hi y => ?_⟩
    · have : i < xs.length := by omega
      exact ⟨xs, xs[i], same_t sm h, List.getElem?_eq_getElem this⟩
    · obtain ⟨e, y⟩ := y
      subst e
      have e2 := y xs (same_t s2 (same_t s1 h))
      obtain ⟨d, e3, ad⟩ := hd.getV e2
      exact ⟨F1, d, e3, Ext.refl _ _, Same.refl _, s2, At.mono s1 _ _ ad⟩
theorem id_seq {l : Expr} {fe : FE} (h : ED X l fe) : ID X tg l (fSeq fe) := by
  obtain ⟨te, pe, se⟩ := h
  refine ⟨_, pi_seqZ pe, fun W F σ s p H Q ds p' r e1 q => ?_⟩
  unfold fSeq at e1
  cases e2 : fe s p with
  | none => rw [e2] at e1; cases e1
  | some x =>
    rw [e2] at e1
    change (seqOf x.1).map _ = _ at e1
    cases e3 : seqOf x.1 with
    | none => rw [e3] at e1; cases e1
    | some ys =>
      rw [e3] at e1
      cases e1
      refine se W F σ s p H _ x.1 x.2 r e2 fun v F1 H1 x1 r1 a1 => ?_
      obtain ⟨b, a, xs, rfl, h1, h2⟩ := sqA_of a1 e3
      exact ⟨b, a, xs, rfl, SqA.mono r1.exF h1, fun hz => q _ F1 H1 x1 r1 (wlk_seq h1 h2 hz)⟩
/-- lo, lo + 1, .. : n of them -/
def rngD (lo : Int) (n : Nat) : List D := (List.range n).map fun k => D.int (lo + (k : Nat))
theorem rngD_len (lo : Int) (n : Nat) : (rngD lo n).length = n := by simp [rngD]
theorem rngD_get {lo : Int} {n i : Nat} (h : i < n) : (rngD lo n)[i]? = some (.int (lo + (i : Nat))) := by
  unfold rngD
  rw [List.getElem?_map, List.getElem?_range h]
  rfl
theorem wlk_rng {F : Hp} {lo : Int} {n : Nat} (hn : n ≤ 1000000) : Wlk K (Itr lo n) F (rngD lo n) := by
  refine ⟨by rw [rngD_len]; exact line6 hn, fun i H _ hi => by rw [rngD_len] at hi; exact hi, fun H _ => by rw [rngD_len]; exact Nat.le_refl _, fun i H x H' F1 s1 s2 hi y => ?_⟩
  obtain ⟨e, y⟩ := y
  subst e y
  rw [rngD_len] at hi
  exact ⟨F1, _, rngD_get hi, Ext.refl _ _, Same.refl _, s2, rfl⟩
def rng1 : List D → Option (List D)
  | [.int n] => if -1000000 ≤ n ∧ n ≤ 1000000 then some (rngD 0 n.toNat) else none
  | _ => none
def rng2 : List D → Option (List D)
  | [.int a, .int b] => if -1000000 ≤ a ∧ a ≤ 1000000 ∧ -1000000 ≤ b ∧ b ≤ 1000000 ∧ b - a ≤ 1000000 then some (rngD a (b - a).toNat) else none
  | _ => none
theorem id_rng1 {a : Expr} {fs : FA} {ps : Pos} (hg : Gl X "range") (hm : X.mg "range" = none) (ha : AD X [a] fs) (hs : starEach [a] X.env = [(false, eval a X.env)] := by rfl) : ID X tg (.Call (.Name "range" ps) [a] [] pos) (fCallL rng1 fs) := by
  obtain ⟨ta, pa, sa⟩ := ha
  refine ⟨_, pi_range1 hg hm pa hs, fun W F σ s p H Q ds p' r e1 q => ?_⟩
  unfold fCallL at e1
  cases e2 : fs s p with
  | none => rw [e2] at e1; cases e1
  | some x =>
    rw [e2] at e1
    change (rng1 x.1).map _ = _ at e1
    refine sa W F σ s p H _ x.1 x.2 r e2 fun vs F1 H1 x1 r1 a1 => ?_
    unfold rng1 at e1
    split at e1
    · rename_i n hx
      split at e1
      · rename_i hn
        cases e1
        rw [hx] at a1
        obtain ⟨v, t, rfl, rfl, rfl⟩ := a1
        exact ⟨n, rfl, by omega, by omega, q _ F1 H1 x1 r1 (wlk_rng (by omega))⟩
      · cases e1
    · cases e1
theorem id_rng2 {a b : Expr} {fs : FA} {ps : Pos} (hg : Gl X "range") (hm : X.mg "range" = none) (ha : AD X [a, b] fs) (hs : starEach [a, b] X.env = [(false, eval a X.env), (false, eval b X.env)] := by rfl) (hs2 : starEach [b] X.env = [(false, eval b X.env)] := by rfl) : ID X tg (.Call (.Name "range" ps) [a, b] [] pos) (fCallL rng2 fs) := by
  obtain ⟨ta, pa, sa⟩ := ha
  refine ⟨_, pi_range2 hg hm pa hs hs2, fun W F σ s p H Q ds p' r e1 q => ?_⟩
  unfold fCallL at e1
  cases e2 : fs s p with
  | none => rw [e2] at e1; cases e1
  | some x =>
    rw [e2] at e1
    change (rng2 x.1).map _ = _ at e1
    refine sa W F σ s p H _ x.1 x.2 r e2 fun vs F1 H1 x1 r1 a1 => ?_
    unfold rng2 at e1
    split at e1
    · rename_i n m hx
      split at e1
      · rename_i hn
        cases e1
        rw [hx] at a1
        obtain ⟨v, t, rfl, rfl, w, t', rfl, rfl, rfl⟩ := a1
        exact ⟨n, m, rfl, by omega, q _ F1 H1 x1 r1 (wlk_rng (by omega))⟩
      · cases e1
    · cases e1
/-- zip of two, of three -/
def zipD2 : List D → List D → List D
  | x :: xs, y :: ys => .tup [x, y] :: zipD2 xs ys
  | _, _ => []
def zipD3 : List D → List D → List D → List D
  | x :: xs, y :: ys, z :: zs => .tup [x, y, z] :: zipD3 xs ys zs
  | _, _, _ => []
theorem zipD2_len : ∀ xs ys : List D, (zipD2 xs ys).length = min xs.length ys.length
  | [], _ => by simp [zipD2]
  | _ :: _, [] => by simp [zipD2]
  | x :: xs, y :: ys => by simp [zipD2, zipD2_len xs ys]
theorem zipD2_get : ∀ {xs ys : List D} {i : Nat} {x y : D}, xs[i]? = some x → ys[i]? = some y → (zipD2 xs ys)[i]? = some (.tup [x, y])
  | x :: xs, y :: ys, 0, _, _, h1, h2 => by simp at h1 h2; simp [zipD2, h1, h2]
  | x :: xs, y :: ys, i + 1, _, _, h1, h2 => by simpa [zipD2] using zipD2_get (i := i) (by simpa using h1) (by simpa using h2)
  | [], _, _, _, _, h1, _ => by simp at h1
  | _ :: _, [], _, _, _, _, h2 => by simp at h2
theorem zipD3_len : ∀ xs ys zs : List D, (zipD3 xs ys zs).length = min (min xs.length ys.length) zs.length
  | [], _, _ => by simp [zipD3]
  | _ :: _, [], _ => by simp [zipD3]
  | _ :: _, _ :: _, [] => by simp [zipD3]
  | x :: xs, y :: ys, z :: zs => by simp [zipD3, zipD3_len xs ys zs]
theorem zipD3_get : ∀ {xs ys zs : List D} {i : Nat} {x y z : D}, xs[i]? = some x → ys[i]? = some y → zs[i]? = some z → (zipD3 xs ys zs)[i]? = some (.tup [x, y, z])
  | x :: xs, y :: ys, z :: zs, 0, _, _, _, h1, h2, h3 => by simp at h1 h2 h3; simp [zipD3, h1, h2, h3]
  | x :: xs, y :: ys, z :: zs, i + 1, _, _, _, h1, h2, h3 => by simpa [zipD3] using zipD3_get (i := i) (by simpa using h1) (by simpa using h2) (by simpa using h3)
  | [], _, _, _, _, _, _, h1, _, _ => by simp at h1
  | _ :: _, [], _, _, _, _, _, _, h2, _ => by simp at h2
  | _ :: _, _ :: _, [], _, _, _, _, _, _, h3 => by simp at h3
def zip2D : List D → Option (List D)
  | [a, b] => (seqOf a).bind fun xs => (seqOf b).map fun ys => zipD2 xs ys
  | _ => none
def zip3D : List D → Option (List D)
  | [a, b, c] => (seqOf a).bind fun xs => (seqOf b).bind fun ys => (seqOf c).map fun zs => zipD3 xs ys zs
  | _ => none
theorem wlk_zip2 {F : Hp} {b1 b2 : Bool} {a1 a2 : Addr} {xs1 xs2 : List V} {ds1 ds2 : List D} (h1 : SqA K b1 F a1 xs1) (h2 : SqA K b2 F a2 xs2) (d1 : AtL K F ds1 xs1) (d2 : AtL K F ds2 xs2) (z1 : xs1.length ≤ sizeLine) : Wlk K (ItZ2 K b1 b2 a1 a2 xs1 xs2) F (zipD2 ds1 ds2) := by
  have l1 := AtL.len d1
  have l2 := AtL.len d2
  refine ⟨by rw [zipD2_len]; omega, fun i H sm hi => ?_, fun H sm => ?_, fun i H x H' F1 s1 s2 hi y => ?_⟩
  · rw [zipD2_len] at hi
    exact ⟨by omega, SqA.mono sm h1, SqA.mono sm h2⟩
  · exact ⟨by rw [zipD2_len, l1, l2], SqA.mono sm h1, SqA.mono sm h2⟩
  · obtain ⟨T, x1, x2, rfl, hT, rfl, e1, e2⟩ := y
    obtain ⟨u1, f1, g1⟩ := d1.getV e1
    obtain ⟨u2, f2, g2⟩ := d2.getV e2
    have hF1 : F1 T = none := s2.free hT
    refine ⟨upd F1 T (.tup [x1, x2]), _, zipD2_get f1 f2, Ext.new s2 hT, same_upd hT, upd_same2 s2 hT, T, _, rfl, upd_same, ?_⟩
    have sm := s1.trans (same_upd (o := .tup [x1, x2]) hF1)
    exact ⟨_, _, rfl, At.mono sm _ _ g1, _, _, rfl, At.mono sm _ _ g2, rfl⟩
theorem wlk_zip3 {F : Hp} {b1 b2 b3 : Bool} {a1 a2 a3 : Addr} {xs1 xs2 xs3 : List V} {ds1 ds2 ds3 : List D} (h1 : SqA K b1 F a1 xs1) (h2 : SqA K b2 F a2 xs2) (h3 : SqA K b3 F a3 xs3) (d1 : AtL K F ds1 xs1) (d2 : AtL K F ds2 xs2) (d3 : AtL K F ds3 xs3)
    (z1 : xs1.length ≤ sizeLine) : Wlk K (ItZ3 K b1 b2 b3 a1 a2 a3 xs1 xs2 xs3) F (zipD3 ds1 ds2 ds3) := by
  have l1 := AtL.len d1
  have l2 := AtL.len d2
  have l3 := AtL.len d3
  refine ⟨by rw [zipD3_len]; omega, fun i H sm hi => ?_, fun H sm => ?_, fun i H x H' F1 s1 s2 hi y => ?_⟩
  · rw [zipD3_len] at hi
    exact ⟨by omega, SqA.mono sm h1, SqA.mono sm h2, SqA.mono sm h3⟩
  · exact ⟨by rw [zipD3_len, l1, l2, l3], SqA.mono sm h1, SqA.mono sm h2, SqA.mono sm h3⟩
  · obtain ⟨T, x1, x2, x3, rfl, hT, rfl, e1, e2, e3⟩ := y
    obtain ⟨u1, f1, g1⟩ := d1.getV e1
    obtain ⟨u2, f2, g2⟩ := d2.getV e2
    obtain ⟨u3, f3, g3⟩ := d3.getV e3
    have hF1 : F1 T = none := s2.free hT
    refine ⟨upd F1 T (.tup [x1, x2, x3]), _, zipD3_get f1 f2 f3, Ext.new s2 hT, same_upd hT, upd_same2 s2 hT, T, _, rfl, upd_same, ?_⟩
    have sm := s1.trans (same_upd (o := .tup [x1, x2, x3]) hF1)
    exact ⟨_, _, rfl, At.mono sm _ _ g1, _, _, rfl, At.mono sm _ _ g2, _, _, rfl, At.mono sm _ _ g3, rfl⟩
theorem id_zip2 {e1 e2 : Expr} {fs : FA} {ps tpos : Pos} {elts : List Expr} {kk : Nat} (hg : Gl X "zip") (hm : X.mg "zip" = none) (ha : AD X [e1, e2] fs)
    (hs : starEach [e1, e2] X.env = (false, eval e1 X.env) :: starEach [e2] X.env := by rfl) (hpl : (backTo pos (starEach [e2] X.env)).any (·.1) = false := by rfl) : ID X (.Tuple elts kk tpos) (.Call (.Name "zip" ps) [e1, e2] [] pos) (fCallL zip2D fs) := by
  obtain ⟨ta, pa, sa⟩ := ha
  refine ⟨_, pi_Z2 hg hm pa hs hpl, fun W F σ s p H Q ds p' r e1 q => ?_⟩
  unfold fCallL at e1
  cases e2 : fs s p with
  | none => rw [e2] at e1; cases e1
  | some x =>
    rw [e2] at e1
    change (zip2D x.1).map _ = _ at e1
    refine sa W F σ s p H _ x.1 x.2 r e2 fun vs F1 H1 x1 r1 a1 => ?_
    unfold zip2D at e1
    split at e1
    · rename_i d1 d2 hx
      cases f1 : seqOf d1 with
      | none => rw [f1] at e1; cases e1
      | some ys1 =>
        cases f2 : seqOf d2 with
        | none => rw [f1, f2] at e1; cases e1
        | some ys2 =>
          rw [f1, f2] at e1
          cases e1
          rw [hx] at a1
          obtain ⟨v1, t, rfl, g1, v2, t', rfl, g2, rfl⟩ := a1
          obtain ⟨b1, c1, xs1, rfl, h1, k1⟩ := sqA_of g1 f1
          obtain ⟨b2, c2, xs2, rfl, h2, k2⟩ := sqA_of g2 f2
          exact ⟨b1, b2, c1, c2, xs1, xs2, rfl, SqA.mono r1.exF h1, SqA.mono r1.exF h2, fun z1 z2 => q _ F1 H1 x1 r1 (wlk_zip2 h1 h2 k1 k2 z1)⟩
    · cases e1
theorem id_zip3 {e1 e2 e3 : Expr} {fs : FA} {ps tpos : Pos} {elts : List Expr} {kk : Nat} (hg : Gl X "zip") (hm : X.mg "zip" = none) (ha : AD X [e1, e2, e3] fs)
    (hs : starEach [e1, e2, e3] X.env = (false, eval e1 X.env) :: starEach [e2, e3] X.env := by rfl) (hpl : (backTo pos (starEach [e2, e3] X.env)).any (·.1) = false := by rfl) : ID X (.Tuple elts kk tpos) (.Call (.Name "zip" ps) [e1, e2, e3] [] pos) (fCallL zip3D fs) := by
  obtain ⟨ta, pa, sa⟩ := ha
  refine ⟨_, pi_Z3 hg hm pa hs hpl, fun W F σ s p H Q ds p' r e1 q => ?_⟩
  unfold fCallL at e1
  cases e2 : fs s p with
  | none => rw [e2] at e1; cases e1
  | some x =>
    rw [e2] at e1
    change (zip3D x.1).map _ = _ at e1
    refine sa W F σ s p H _ x.1 x.2 r e2 fun vs F1 H1 x1 r1 a1 => ?_
    unfold zip3D at e1
    split at e1
    · rename_i d1 d2 d3 hx
      cases f1 : seqOf d1 with
      | none => rw [f1] at e1; cases e1
      | some ys1 =>
        cases f2 : seqOf d2 with
        | none => rw [f1, f2] at e1; cases e1
        | some ys2 =>
          cases f3 : seqOf d3 with
          | none => rw [f1, f2, f3] at e1; cases e1
          | some ys3 =>
            rw [f1, f2, f3] at e1
            cases e1
            rw [hx] at a1
            obtain ⟨v1, t, rfl, g1, v2, t', rfl, g2, v3, t'', rfl, g3, rfl⟩ := a1
            obtain ⟨b1, c1, xs1, rfl, h1, k1⟩ := sqA_of g1 f1
            obtain ⟨b2, c2, xs2, rfl, h2, k2⟩ := sqA_of g2 f2
            obtain ⟨b3, c3, xs3, rfl, h3, k3⟩ := sqA_of g3 f3
            exact ⟨b1, b2, b3, c1, c2, c3, xs1, xs2, xs3, rfl, SqA.mono r1.exF h1, SqA.mono r1.exF h2, SqA.mono r1.exF h3, fun z1 z2 z3 => q _ F1 H1 x1 r1 (wlk_zip3 h1 h2 h3 k1 k2 k3 z1)⟩
    · cases e1

def forL (g : FG) (b : FS) : List D → FS
  | [], s, p => some (.nx s p)
  | d :: ds, s, p => (g d s).bind fun s1 => (b s1 p).bind fun o => match o with
    | .nx s2 p2 => forL g b ds s2 p2
    | .ct s2 p2 => forL g b ds s2 p2
    | .bk s2 p2 => some (.nx s2 p2)
    | .rt d p2 => some (.rt d p2)
def xFor (fi : FA) (g : FG) (b : FS) : FS := fun s p => (fi s p).bind fun x => forL g b x.1 s x.2
theorem drop_at {α : Type} {l : List α} {i : Nat} {x : α} (h : l[i]? = some x) : l.drop i = x :: l.drop (i + 1) := by
  obtain ⟨hi, e⟩ := List.getElem?_eq_some_iff.mp h
  rw [← e]
  exact List.drop_eq_getElem_cons hi
theorem satS_for {wi : TI} {t : TG} {tb : TS} {fi : FA} {idx : List Nat} {g : FG} {b : FS} (hi : SatI K wi fi) (hg : SatG K t idx g) (hb : SatS K tb b) : SatS K (tFor wi t tb) (xFor fi g b) := by
  intro W F σ s p H Dn o r hl h q
  unfold xFor at h
  cases e1 : fi s p with
  | none => rw [e1] at h; cases h
  | some x =>
    rw [e1] at h
    change forL g b x.1 s x.2 = some o at h
    refine hi W F σ s p H _ x.1 x.2 r e1 fun J F1 H1 x1 r1 wk => ?_
    have q1 : PostS K W F1 H1 Dn o := q.from (x1.s r)
    refine ⟨fun i m σ2 H2 => m = x.1.length - i ∧ i ≤ x.1.length ∧ ∃ F2 s2 p2, ExtS W F1 H1 F2 H2 ∧ R K W F2 σ2 s2 p2 H2 ∧ σ2.length = s2.length ∧ forL g b (x.1.drop i) s2 p2 = some o,
      ⟨_, rfl, Nat.zero_le _, F1, s, x.2, ExtS.refl _ _ _, r1, hl, h⟩, ?_⟩
    rintro i m σ2 H2 ⟨rfl, hle, F2, s2, p2, x2, r2, hl2, h2⟩
    have sm2 : Same F1 F2 := x2.ex
    by_cases hlt : i < x.1.length
    · refine .inr ⟨wk.go i H2 (sm2.trans r2.exF) hlt, fun σ3 H3 => ∃ F3 s3 p3, ExtS W F1 H1 F3 H3 ∧ R K W F3 σ3 s3 p3 H3 ∧ σ3.length = s3.length ∧ forL g b (x.1.drop (i + 1)) s3 p3 = some o,
        fun σ3 H3 ⟨F3, s3, p3, z⟩ => ⟨x.1.length - (i + 1), by omega, rfl, hlt, F3, s3, p3, z⟩, fun v H3 y => ?_⟩
      obtain ⟨F3, d, ed, x3, sm3, smF3, a3⟩ := wk.yld i H2 v H3 F2 sm2 r2.exF hlt y
      have r3 := r2.grow x3 sm3 smF3
      have x23 : ExtS W F1 H1 F3 H3 := x2.trans (x3.s r2)
      rw [drop_at ed] at h2
      unfold forL at h2
      cases e4 : g d s2 with
      | none => rw [e4] at h2; cases h2
      | some s4 =>
        rw [e4] at h2
        change (b s4 p2).bind _ = some o at h2
        refine hg W F3 σ2 s2 p2 H3 _ d v s4 r3 a3 e4 hl2 fun σ4 l4 _ r4 => ?_
        cases e5 : b s4 p2 with
        | none => rw [e5] at h2; cases h2
        | some o5 =>
          rw [e5] at h2
          refine hb W F3 σ4 s4 p2 H3 _ o5 r4 l4 e5 ?_
          cases o5 with
          | nx s5 p5 => exact fun σ5 F5 H5 l5 x5 r5 => ⟨F5, s5, p5, x23.trans x5, r5, l5, h2⟩
          | ct s5 p5 => exact fun σ5 F5 H5 l5 x5 r5 => ⟨F5, s5, p5, x23.trans x5, r5, l5, h2⟩
          | bk s5 p5 =>
            cases h2
            exact fun σ5 F5 H5 l5 x5 r5 => q1 σ5 F5 H5 l5 (x23.trans x5) r5
          | rt d5 p5 =>
            cases h2
            exact fun v F5 H5 x5 => q1 v F5 H5 (x23.trans x5)
    · have e : i = x.1.length := by omega
      subst e
      rw [List.drop_length] at h2
      cases h2
      exact .inl ⟨wk.stop H2 (sm2.trans r2.exF), q1 σ2 F2 H2 hl2 x2 r2⟩
theorem sd_for {iter : Expr} {body : List Stmt} {fi : FA} {idx : List Nat} {g : FG} {b : FS} (hi : ID X tg iter fi) (hg : GD X tg idx g) (hb : SSD X body b) (hp : PassesOwn (model X.prog X.w) X.A X.env X.xe := by exact PassesOwn.never) (hc : X.calm = true := by rfl)
    (hs : ∀ x, foldedSetIterable iter X.env x = pure x := by intro _; rfl) : SD X (.For tg iter body [] pos) (xFor fi g b) := by
  obtain ⟨wi, pi, si⟩ := hi
  obtain ⟨t, pg, sg⟩ := hg
  obtain ⟨tb, pb, sb⟩ := hb
  exact ⟨_, ps_for hp hc pi pg pb hs, satS_for si sg sb⟩

def whN : Nat → FT → FS → FS
  | 0, _, _, _, _ => none
  | n + 1, c, b, s, p => (c s p).bind fun x => if x.1 = true then (b s x.2).bind fun o => match o with
    | .nx s2 p2 => whN n c b s2 p2
    | .ct s2 p2 => whN n c b s2 p2
    | .bk s2 p2 => some (.nx s2 p2)
    | .rt d p2 => some (.rt d p2) else some (.nx s x.2)
/-- the loop runs to its end -/
def WhR (c : FT) (b : FS) (s : List Sl) (p : PL) (o : Out) : Prop := ∃ n, whN n c b s p = some o
theorem whN_mono {c : FT} {b : FS} : ∀ {n : Nat} {s : List Sl} {p : PL} {o : Out}, whN n c b s p = some o → whN (n + 1) c b s p = some o
  | 0, _, _, _, h => by cases h
  | n + 1, s, p, o, h => by
    unfold whN at h ⊢
    cases e1 : c s p with
    | none => rw [e1] at h; cases h
    | some x =>
      rw [e1] at h
      change (if x.1 = true then (b s x.2).bind _ else some (Out.nx s x.2)) = some o at h
      change (if x.1 = true then (b s x.2).bind _ else some (Out.nx s x.2)) = some o
      by_cases hx : x.1 = true
      · rw [if_pos hx] at h ⊢
        cases e2 : b s x.2 with
        | none => rw [e2] at h; cases h
        | some o2 =>
          rw [e2] at h
          cases o2 with
          | nx s2 p2 => exact whN_mono (n := n) h
          | ct s2 p2 => exact whN_mono (n := n) h
          | bk s2 p2 => exact h
          | rt d p2 => exact h
      · rw [if_neg hx] at h ⊢
        exact h
theorem whN_le {c : FT} {b : FS} {s : List Sl} {p : PL} {o : Out} {n m : Nat} (hnm : n ≤ m) (h : whN n c b s p = some o) : whN m c b s p = some o := by
  induction hnm with
  | refl => exact h
  | step _ ih => exact whN_mono ih
/-- enough turns for what is met here -/
def xWh (c : FT) (b : FS) : FS := whN 100000000 c b
theorem xWh_of {c : FT} {b : FS} {s : List Sl} {p : PL} {o : Out} (n : Nat) (h : whN n c b s p = some o) (hn : n ≤ 100000000 := by omega) : xWh c b s p = some o := whN_le hn h
theorem xWh_to {c : FT} {b : FS} {s : List Sl} {p : PL} {o : Out} (h : xWh c b s p = some o) : ∃ n, whN n c b s p = some o := ⟨_, h⟩
theorem satS_while {tt : TT} {tb : TS} {c : FT} {b : FS} (hc : SatT K tt c) (hb : SatS K tb b) : SatS K (tWhile tt tb) (xWh c b) := by
  intro W F σ s p H Dn o r hl h q
  obtain ⟨n, h⟩ := xWh_to h
  refine ⟨fun m σ2 H2 => ∃ F2 s2 p2, ExtS W F H F2 H2 ∧ R K W F2 σ2 s2 p2 H2 ∧ σ2.length = s2.length ∧ whN m c b s2 p2 = some o, ⟨n, F, s, p, ExtS.refl _ _ _, r, hl, h⟩, ?_⟩
  rintro m σ2 H2 ⟨F2, s2, p2, x2, r2, hl2, h2⟩
  cases m with
  | zero => cases h2
  | succ m =>
    unfold whN at h2
    cases e1 : c s2 p2 with
    | none => rw [e1] at h2; cases h2
    | some x =>
      rw [e1] at h2
      change (if x.1 = true then (b s2 x.2).bind _ else some (Out.nx s2 x.2)) = some o at h2
      refine hc W F2 σ2 s2 p2 H2 _ x.1 x.2 r2 e1 fun F3 H3 x3 r3 => ?_
      have x23 := x2.trans (x3.s r2)
      by_cases hx : x.1 = true
      · rw [if_pos hx] at h2 ⊢
        cases e2 : b s2 x.2 with
        | none => rw [e2] at h2; cases h2
        | some o2 =>
          rw [e2] at h2
          refine ⟨fun σ4 H4 => ∃ F4 s4 p4, ExtS W F H F4 H4 ∧ R K W F4 σ4 s4 p4 H4 ∧ σ4.length = s4.length ∧ whN m c b s4 p4 = some o, fun σ4 H4 z => ⟨m, Nat.lt_succ_self _, z⟩, ?_⟩
          refine hb W F3 σ2 s2 x.2 H3 _ o2 r3 hl2 e2 ?_
          cases o2 with
          | nx s4 p4 => exact fun σ4 F4 H4 l4 x4 r4 => ⟨F4, s4, p4, x23.trans x4, r4, l4, h2⟩
          | ct s4 p4 => exact fun σ4 F4 H4 l4 x4 r4 => ⟨F4, s4, p4, x23.trans x4, r4, l4, h2⟩
          | bk s4 p4 =>
            cases h2
            exact fun σ4 F4 H4 l4 x4 r4 => q σ4 F4 H4 l4 (x23.trans x4) r4
          | rt d p4 =>
            cases h2
            exact fun v F4 H4 x4 => q v F4 H4 (x23.trans x4)
      · rw [if_neg hx] at h2 ⊢
        cases h2
        exact q σ2 F3 H3 hl2 x23 r3
theorem sd_while {c : Expr} {body : List Stmt} {ft : FT} {b : FS} (hc : TD X c ft) (hb : SSD X body b) (hp : PassesOwn (model X.prog X.w) X.A X.env X.xe := by exact PassesOwn.never) : SD X (.While c body [] pos) (xWh ft b) := by
  obtain ⟨tt, pt, st⟩ := hc
  obtain ⟨tb, pb, sb⟩ := hb
  exact ⟨_, ps_while hp pt pb, satS_while st sb⟩
end
end DL

namespace DL
open PySem L2

section
variable {X : Cx} {K : PySem.W.Frag}
def TsD (X : Cx) (ifs : List Expr) (f : FT) : Prop := ∃ tt, PTs X ifs tt ∧ SatT X.K tt f
def fYes : FT := fun _ p => some (true, p)
theorem tsd_nil : TsD X [] fYes := ⟨_, pts_nil, fun W F σ s p H Q b p' r h q => by cases h; exact q F H (Ext.refl _ _) r⟩
theorem tsd_one {c : Expr} {ft : FT} (h : TD X c ft) : TsD X [c] ft := by
  obtain ⟨t, pt, st⟩ := h
  exact ⟨_, pts_one pt, st⟩
def lcL (g : FG) (t : FT) (e : FE) (s : List Sl) : List D → PL → Option (List D × PL)
  | [], p => some ([], p)
  | d :: ds, p => (g d s).bind fun s1 => (t s1 p).bind fun b => if b.1 = true then (e s1 b.2).bind fun x => (lcL g t e s ds x.2).map fun y => (x.1 :: y.1, y.2) else lcL g t e s ds b.2
def wipeS (s : List Sl) : List Nat → List Sl
  | [] => s
  | v :: vs => (wipeS s vs).set v .no
def notOwn (s : List Sl) (j : Nat) : Bool := match s[j]? with
  | some x => !x.own
  | none => true
def fLc (own : List Nat) (fi : FA) (g : FG) (t : FT) (e : FE) : FA := fun s p => (fi s p).bind fun x => if own.all (notOwn s) = true then lcL g t e (wipeS s own) x.1 x.2 else none
theorem wipeS_length (s : List Sl) : ∀ vs : List Nat, (wipeS s vs).length = s.length
  | [] => rfl
  | v :: vs => by unfold wipeS; rw [List.length_set, wipeS_length s vs]
theorem wipeS_out {s : List Sl} {j : Nat} : ∀ {vs : List Nat}, j ∉ vs → (wipeS s vs)[j]? = s[j]?
  | [], _ => rfl
  | v :: vs, h => by
    unfold wipeS
    rw [List.getElem?_set_ne (fun z => h (by simp [z])), wipeS_out (fun z => h (List.mem_cons_of_mem _ z))]
theorem wipeS_in {s : List Sl} {j : Nat} : ∀ {vs : List Nat} {x : Sl}, j ∈ vs → (wipeS s vs)[j]? = some x → x = .no
  | v :: vs, x, h, e => by
    unfold wipeS at e
    by_cases hv : v = j
    · subst hv
      have hl : v < (wipeS s vs).length := by
        have := (List.getElem?_eq_some_iff.mp e).1
        simpa using this
      rw [List.getElem?_set_self hl] at e
      exact (Option.some.inj e).symm
    · rw [List.getElem?_set_ne hv] at e
      rcases List.mem_cons.mp h with z | z
      · exact absurd z.symm hv
      · exact wipeS_in z e
theorem wipe_out2 {σ : St} {j : Nat} : ∀ {vs : List Nat}, j ∉ vs → (wipe σ vs)[j]? = σ[j]?
  | [], _ => rfl
  | v :: vs, h => by
    unfold wipe
    rw [List.getElem?_set_ne (fun z => h (by simp [z])), wipe_out2 (fun z => h (List.mem_cons_of_mem _ z))]
theorem wipe_in2 {σ : St} {j : Nat} : ∀ {vs : List Nat}, j ∈ vs → (wipe σ vs)[j]? = if j < σ.length then some none else none
  | v :: vs, h => by
    unfold wipe
    by_cases hv : v = j
    · subst hv
      by_cases hl : v < σ.length
      · rw [if_pos hl, List.getElem?_set_self (by rw [wipe_length]; exact hl)]
      · rw [if_neg hl, List.getElem?_eq_none (by rw [List.length_set, wipe_length]; omega)]
    · rw [List.getElem?_set_ne hv]
      rcases List.mem_cons.mp h with z | z
      · exact absurd z.symm hv
      · exact wipe_in2 z
theorem wipe_eq {σ σ' : St} {vs : List Nat} (hl : σ'.length = σ.length) (h : ∀ j, j ∉ vs → σ'[j]? = σ[j]?) : wipe σ' vs = wipe σ vs := by
  apply List.ext_getElem?
  intro j
  by_cases hj : j ∈ vs
  · rw [wipe_in2 hj, wipe_in2 hj, hl]
  · rw [wipe_out2 hj, wipe_out2 hj, h j hj]
theorem wipe_wipe {σ : St} {vs : List Nat} : wipe (wipe σ vs) vs = wipe σ vs := wipe_eq (wipe_length σ vs) fun j hj => wipe_out2 hj
theorem R.wipe {W : Wd} {F H : Hp} {σ : St} {s : List Sl} {p : PL} (r : R K W F σ s p H) : ∀ vs : List Nat, R K W F (L2.wipe σ vs) (wipeS s vs) p H
  | [] => r
  | v :: vs => (R.wipe r vs).forget v none
/-- the slots of another description that says less or the same -/
theorem R.sub {W : Wd} {F H : Hp} {σ σ' : St} {s s' : List Sl} {p : PL} (r : R K W F σ s p H) (h : ∀ (i : Nat) x, s'[i]? = some x → x = .no ∨ (s[i]? = some x ∧ σ'[i]? = σ[i]?)) (hl : σ'.length = s'.length) : R K W F σ' s' p H := by
  refine ⟨r.exB, r.exF, fun i x hx => ?_, fun i j x y a hij hx hy ox oy e1 e2 => ?_, r.pool, hl⟩
  · rcases h i x hx with rfl | ⟨h1, h2⟩
    · trivial
    · rw [h2]; exact r.slot i x h1
  · rcases h i x hx with rfl | ⟨h1, h2⟩
    · cases ox
    · rcases h j y hy with rfl | ⟨h3, h4⟩
      · cases oy
      · rw [h2] at e1
        rw [h4] at e2
        exact r.dist i j x y a hij h1 h3 ox oy e1 e2
/-- a target stores its own slots alone -/
def GOk (idx : List Nat) (g : FG) : Prop := ∀ d s s', g d s = some s' → s'.length = s.length ∧ ∀ j, j ∉ idx → s'[j]? = s[j]?
def GsOk (idx : List Nat) (g : List D → List Sl → Option (List Sl)) : Prop := ∀ d s s', g d s = some s' → s'.length = s.length ∧ ∀ j, j ∉ idx → s'[j]? = s[j]?
theorem gok_name (i : Nat) : GOk [i] (gN i) := fun d s s' h => by
  unfold gN at h
  split at h
  · cases h
    exact ⟨by simp, fun j hj => List.getElem?_set_ne (fun z => hj (by simp [z]))⟩
  · cases h
theorem gsok_nil : GsOk [] gNilD := fun d s s' h => by
  unfold gNilD at h
  split at h
  · cases h; exact ⟨rfl, fun _ _ => rfl⟩
  · cases h
theorem gsok_cons {i1 i2 : List Nat} {g : FG} {gs : List D → List Sl → Option (List Sl)} (h1 : GOk i1 g) (h2 : GsOk i2 gs) : GsOk (i1 ++ i2) (gConsD g gs) := fun d s s' h => by
  unfold gConsD at h
  split at h
  · rename_i d r
    cases e1 : g d s with
    | none => rw [e1] at h; cases h
    | some s1 =>
      rw [e1] at h
      obtain ⟨l1, k1⟩ := h1 d s s1 e1
      obtain ⟨l2, k2⟩ := h2 r s1 s' h
      exact ⟨l2.trans l1, fun j hj => (k2 j (fun z => hj (List.mem_append_right _ z))).trans (k1 j (fun z => hj (List.mem_append_left _ z)))⟩
  · cases h
theorem gok_tup {idx : List Nat} {n : Nat} {gs : List D → List Sl → Option (List Sl)} (h : GsOk idx gs) : GOk idx (gT n gs) := fun d s s' e => by
  unfold gT at e
  split at e
  · split at e
    · exact h _ _ _ e
    · cases e
  · cases e
theorem satL_lc {wi : TI} {tg : TG} {tt : TT} {te : TE} {fi : FA} {idx vs : List Nat} {g : FG} {ft : FT} {fe : FE} (hi : SatI K wi fi) (hg : SatG K tg idx g) (hgo : GOk idx g) (hsub : ∀ j ∈ idx, j ∈ vs) (ht : SatT K tt ft) (he : SatE K te fe) : SatL K (tLc wi tg tt te vs) (fLc vs fi g ft fe) := by
  intro W F σ s p H Q ds p' r h q
  have hlen := r.len
  unfold fLc at h
  cases e1 : fi s p with
  | none => rw [e1] at h; cases h
  | some x =>
    rw [e1] at h
    change (if vs.all (notOwn s) = true then lcL g ft fe (wipeS s vs) x.1 x.2 else none) = some (ds, p') at h
    split at h
    · rename_i hno
      refine hi W F σ s p H _ x.1 x.2 r e1 fun J F1 H1 x1 r1 wk D0 hD => ?_
      have hB : W.B D0 = none := by
        cases hb : W.B D0 with
        | none => rfl
        | some o => rw [r1.exB _ _ hb] at hD; cases hD
      have hH : H D0 = none := by
        cases h9 : H D0 with
        | none => rfl
        | some o => exact absurd hD (x1.grow D0 (ne_none_of h9))
      have hF1 : F1 D0 = none := r1.exF.free hD
      -- the state between two turns
      refine ⟨fun i m Hc => m = x.1.length - i ∧ i ≤ x.1.length ∧ ∃ F2 us acc p2 rest, Ext F1 H1 F2 Hc ∧ F2 D0 = none ∧ Hc D0 = some (.lst us) ∧ R K W F2 (L2.wipe σ vs) (wipeS s vs) p2 Hc ∧ AtL K F2 acc us ∧ us.length ≤ i ∧
        lcL g ft fe (wipeS s vs) (x.1.drop i) p2 = some (rest, p') ∧ acc ++ rest = ds ∧ (W.u = true → D0 ≠ W.A), ⟨_, rfl, Nat.zero_le _, F1, [], [], x.2, ds, Ext.heap grow_upd, hF1, upd_same, (r1.garb hD).wipe vs, rfl, Nat.le_refl _, h, rfl, fun hu z => ?_⟩, ?_⟩
      · rw [z, (r1.pool hu).2.2.1] at hD; cases hD
      rintro i m Hc ⟨rfl, hle, F2, us, acc, p2, rest, x2, f2, hD2, r2, a2, hus, h2, hacc, hDA⟩
      have sm2 : Same F1 F2 := x2.ex
      by_cases hlt : i < x.1.length
      · refine .inr ⟨wk.go i Hc (sm2.trans r2.exF) hlt, fun H3 => ∃ F3 us acc p3 rest, Ext F1 H1 F3 H3 ∧ F3 D0 = none ∧ H3 D0 = some (.lst us) ∧ R K W F3 (L2.wipe σ vs) (wipeS s vs) p3 H3 ∧ AtL K F3 acc us ∧ us.length ≤ i + 1 ∧
          lcL g ft fe (wipeS s vs) (x.1.drop (i + 1)) p3 = some (rest, p') ∧ acc ++ rest = ds ∧ (W.u = true → D0 ≠ W.A), fun H3 ⟨F3, us, acc, p3, rest, z⟩ => ⟨x.1.length - (i + 1), by omega, rfl, hlt, F3, us, acc, p3, rest, z⟩, fun v H3 y => ?_⟩
        obtain ⟨F3, d, ed, x3, sm3, smF3, a3⟩ := wk.yld i Hc v H3 F2 sm2 r2.exF hlt y
        -- the block's body runs beside the list that grows
        have r3 : R K W F3 (L2.wipe σ vs) (wipeS s vs) p2 H3 := r2.grow x3 sm3 smF3
        have hD3 : H3 D0 = some (.lst us) := sm3 _ _ hD2
        have f3 : F3 D0 = none := by rw [x3.fsh D0 (ne_none_of hD2)]; exact f2
        have nown : ∀ {F' H' : Hp} {σ' : St} {s' : List Sl} {p' : PL}, R K W F' σ' s' p' H' → True := fun _ => trivial
        -- the widened base
        have rW : R K { W with B := upd W.B D0 (.lst us) } F3 (L2.wipe σ vs) (wipeS s vs) p2 H3 := by
          have own : ∀ {k : Nat} {z : Sl}, (wipeS s vs)[k]? = some z → z.own = true → ∀ a, (L2.wipe σ vs)[k]? = some (some (.ref a)) → a ≠ D0 := fun {k z} hz oz a ea ne => by
            have hk : k ∉ vs := fun hk => by rw [wipeS_in hk hz] at oz; cases oz
            rw [wipeS_out hk] at hz
            rw [wipe_out2 hk] at ea
            obtain ⟨b, o, z1, _, _, _, z5, _⟩ := slok_own oz (r.slot k z hz)
            rw [z1] at ea
            cases ea
            rw [ne, hH] at z5
            cases z5
          refine ⟨fun b o e => ?_, r3.exF, fun k z hz => ?_, r3.dist, fun hu => ?_, r3.len⟩
          · by_cases hb : b = D0
            · subst hb
              have e' : upd W.B b (.lst us) b = some o := e
              rw [upd_same] at e'
              rw [hD3]; exact e'
            · have e' : upd W.B D0 (.lst us) b = some o := e
              rw [upd_ne hb] at e'
              exact r3.exB _ _ e'
          · have w := r3.slot k z hz
            cases z with
            | no => trivial
            | fz d => exact w
            | pl => exact w
            | ol xs =>
              obtain ⟨a, o, w1, w2, w3, w4⟩ := w
              refine ⟨a, o, w1, w2, ?_, w4⟩
              show upd W.B D0 _ a = none
              rw [upd_ne (own hz rfl a w1)]; exact w3
            | od t xs =>
              obtain ⟨a, o, w1, w2, w3, w4⟩ := w
              refine ⟨a, o, w1, w2, ?_, w4⟩
              show upd W.B D0 _ a = none
              rw [upd_ne (own hz rfl a w1)]; exact w3
          · obtain ⟨w1, w2⟩ := r3.pool hu
            refine ⟨?_, w2⟩
            show upd W.B D0 _ W.A = none
            rw [upd_ne (Ne.symm (hDA hu))]; exact w1
        -- back to the base
        have unW : ∀ {F' H' : Hp} {σ' : St} {s' : List Sl} {p' : PL} (o : HO), R K { W with B := upd W.B D0 (.lst us) } F' σ' s' p' H' → F' D0 = none → R K W F' σ' s' p' (upd H' D0 o) := fun {F' H' σ' s' p'} o r' hf => by
          have ownD : ∀ {k : Nat} {z : Sl}, s'[k]? = some z → z.own = true → ∀ a, σ'[k]? = some (some (.ref a)) → a ≠ D0 := fun {k z} hz oz a ea ne => by
            obtain ⟨b, o, z1, _, z3, _⟩ := slok_own oz (r'.slot k z hz)
            rw [z1] at ea
            cases ea
            have z3' : upd W.B D0 (.lst us) a = none := z3
            rw [ne, upd_same] at z3'
            cases z3'
          refine ⟨fun b o' e => ?_, upd_over r'.exF hf, fun k z hz => ?_, r'.dist, fun hu => ?_, r'.len⟩
          · have hb : b ≠ D0 := fun z => by rw [z, hB] at e; cases e
            rw [upd_ne hb]
            exact r'.exB b o' (by show upd W.B D0 _ b = _; rw [upd_ne hb]; exact e)
          · have w := r'.slot k z hz
            cases z with
            | no => trivial
            | fz d => exact w
            | pl => exact w
            | ol xs =>
              obtain ⟨a, o', w1, w2, w3, w4, w5, w6⟩ := w
              have na := ownD hz rfl a w1
              have w3' : upd W.B D0 (.lst us) a = none := w3
              rw [upd_ne na] at w3'
              exact ⟨a, o', w1, w2, w3', w4, by rw [upd_ne na]; exact w5, w6⟩
            | od t xs =>
              obtain ⟨a, o', w1, w2, w3, w4, w5, w6⟩ := w
              have na := ownD hz rfl a w1
              have w3' : upd W.B D0 (.lst us) a = none := w3
              rw [upd_ne na] at w3'
              exact ⟨a, o', w1, w2, w3', w4, by rw [upd_ne na]; exact w5, w6⟩
          · obtain ⟨w1, w2, w3, w4, w5⟩ := r'.pool hu
            have w1' : upd W.B D0 (.lst us) W.A = none := w1
            rw [upd_ne (Ne.symm (hDA hu))] at w1'
            refine ⟨w1', w2, ?_, w4, w5⟩
            show upd H' D0 o W.A = _
            rw [upd_ne (Ne.symm (hDA hu))]; exact w3
        have hDW : ∀ {F' H' : Hp} {σ' : St} {s' : List Sl} {p' : PL}, R K { W with B := upd W.B D0 (.lst us) } F' σ' s' p' H' → H' D0 = some (.lst us) := fun r' => r'.exB D0 _ upd_same
        rw [drop_at ed] at h2
        unfold lcL at h2
        cases e4 : g d (wipeS s vs) with
        | none => rw [e4] at h2; cases h2
        | some s4 =>
          rw [e4] at h2
          change (ft s4 p2).bind _ = some (rest, p') at h2
          obtain ⟨gl, gk⟩ := hgo d _ s4 e4
          refine hg _ F3 (L2.wipe σ vs) (wipeS s vs) p2 H3 _ d v s4 rW a3 e4 (by rw [wipe_length, wipeS_length]; exact hlen) fun σ4 l4 k4 r4 => ?_
          have hw4 : L2.wipe σ4 vs = L2.wipe σ vs := by
            refine (wipe_eq (by rw [l4, gl, wipe_length, wipeS_length]; exact hlen.symm) fun j hj => k4 j fun z => hj (hsub j z)).trans wipe_wipe
          have hs4 : ∀ {F' H' : Hp} {p' : PL}, R K W F' σ4 s4 p' H' → R K W F' (L2.wipe σ vs) (wipeS s vs) p' H' := fun {F' H' p'} r' => by
            refine r'.sub (fun k z hz => ?_) (by rw [wipe_length, wipeS_length]; exact hlen)
            by_cases hk : k ∈ vs
            · exact .inl (wipeS_in hk hz)
            · exact .inr ⟨by rw [gk k fun z => hk (hsub k z)]; exact hz, (k4 k fun z => hk (hsub k z)).symm⟩
          refine ⟨hw4, ?_⟩
          cases e5 : ft s4 p2 with
          | none => rw [e5] at h2; cases h2
          | some b5 =>
            rw [e5] at h2
            change (if b5.1 = true then (fe s4 b5.2).bind _ else lcL g ft fe (wipeS s vs) (x.1.drop (i + 1)) b5.2) = some (rest, p') at h2
            refine ht _ F3 σ4 s4 p2 H3 _ b5.1 b5.2 r4 e5 fun F5 H5 x5 r5 => ?_
            have x25 : Ext F1 H1 F5 H5 := (x2.trans x3).trans x5
            have f5 : F5 D0 = none := by rw [x5.fsh D0 (ne_none_of hD3)]; exact f3
            by_cases hb : b5.1 = true
            · rw [if_pos hb] at h2 ⊢
              cases e6 : fe s4 b5.2 with
              | none => rw [e6] at h2; cases h2
              | some y6 =>
                rw [e6] at h2
                change (lcL g ft fe (wipeS s vs) (x.1.drop (i + 1)) y6.2).map _ = some (rest, p') at h2
                cases e7 : lcL g ft fe (wipeS s vs) (x.1.drop (i + 1)) y6.2 with
                | none => rw [e7] at h2; cases h2
                | some z7 =>
                  rw [e7] at h2
                  cases h2
                  refine he _ F5 σ4 s4 b5.2 H5 _ y6.1 y6.2 r5 e6 fun w F6 H6 x6 r6 a6 => ?_
                  have hD6 := hDW r6
                  have f6 : F6 D0 = none := by rw [x6.fsh D0 (ne_none_of (hDW r5))]; exact f5
                  have sm26 : Same F2 F6 := (x3.ex.trans x5.ex).trans x6.ex
                  have hsz := wk.sz
                  refine ⟨us, hD6, by omega, F6, us ++ [w], acc ++ [y6.1], y6.2, z7.1, (x25.trans x6).trans (Ext.heap grow_upd), f6, upd_same, hs4 (unW _ r6 f6), AtL.app (AtL.mono sm26 _ _ a2) (AtL.one a6), by simp; omega, e7, by rw [List.append_assoc]; exact hacc, hDA⟩
            · rw [if_neg hb] at h2 ⊢
              have r5' : R K W F5 σ4 s4 b5.2 H5 := by
                have z := unW (.lst us) r5 f5
                have e : upd H5 D0 (.lst us) = H5 := by
                  funext b
                  by_cases hb : b = D0
                  · subst hb; rw [upd_same, hDW r5]
                  · rw [upd_ne hb]
                rw [e] at z
                exact z
              exact ⟨F5, us, acc, b5.2, rest, x25, f5, hDW r5, hs4 r5', AtL.mono (x3.ex.trans x5.ex) _ _ a2, by omega, h2, hacc, hDA⟩
      · have e : i = x.1.length := by omega
        subst e
        rw [List.drop_length] at h2
        cases h2
        refine .inl ⟨wk.stop Hc (sm2.trans r2.exF), ?_⟩
        have hd : acc = ds := by rw [← hacc, List.append_nil]
        subst hd
        refine q D0 us F2 Hc (x1.trans x2) ?_ hH f2 hD2 a2
        -- the slots as they were
        have sm : Same F F2 := x1.ex.trans x2.ex
        refine ⟨r2.exB, r2.exF, fun k z hz => ?_, r.dist, r2.pool, hlen⟩
        by_cases hk : k ∈ vs
        · have w := r.slot k z hz
          have no : z.own = false := by
            have := List.all_eq_true.mp hno k hk
            unfold notOwn at this
            rw [hz] at this
            simpa using this
          cases z with
          | no => trivial
          | fz d => obtain ⟨u, w1, w2⟩ := w; exact ⟨u, w1, At.mono sm _ _ w2⟩
          | pl => exact w
          | ol xs => cases no
          | od t xs => cases no
        · have w := r2.slot k z (by rw [wipeS_out hk]; exact hz)
          rw [wipe_out2 hk] at w
          exact w
    · cases h
end
end DL

namespace DL
open PySem PySem.Spec PyProof.Rows L2

section
variable {X : Cx} {K : PySem.W.Frag}
def starE (X : Cx) (elt : Expr) (scope : Scope) : TE := fun σ H Q => ∀ (s0 : Shared) (H0 : Hp) (C : Addr) (cl : List (Str × Addr)) (fp : List Addr) (pins : List (Addr × Obj)) (s : Shared), Inv (X.blk s0 H0 scope (compEnvC scope cl C X.env) fp) pins σ H s →
  wpAny (model X.prog X.w) X.A (eval elt (compEnvC scope cl C X.env)) (EP (X.blk s0 H0 scope (compEnvC scope cl C X.env) fp) pins σ Q) (fun _ _ => False) s
theorem starE_pe {elt : Expr} {scope : Scope} (s : Shared) (H : Hp) (C : Addr) (cl : List (Str × Addr)) (fp : List Addr) : PE (X.blk s H scope (compEnvC scope cl C X.env) fp) elt (starE X elt scope) :=
  ⟨fun pins s1 σ H1 Q I h => h s H C cl fp pins s1 I⟩
theorem starE_sat {elt : Expr} {scope : Scope} {fe : FE} (h : ∀ (s : Shared) (H : Hp) (C : Addr) (cl : List (Str × Addr)) (fp : List Addr), ED (X.blk s H scope (compEnvC scope cl C X.env) fp) elt fe) : SatE X.K (starE X elt scope) fe := by
  intro W F σ s p H Q d p' r e1 q s0 H0 C cl fp pins s1 I
  obtain ⟨te, pe, se⟩ := h s0 H0 C cl fp
  exact pe.run pins s1 σ H Q I (se W F σ s p H Q d p' r e1 q)
def starT (X : Cx) (ifs : List Expr) (scope : Scope) : TT := fun σ H Q => ∀ (s0 : Shared) (H0 : Hp) (C : Addr) (cl : List (Str × Addr)) (fp : List Addr) (pins : List (Addr × Obj)) (s : Shared), Inv (X.blk s0 H0 scope (compEnvC scope cl C X.env) fp) pins σ H s →
  wpAny (model X.prog X.w) X.A (forIn ifs true fun c r => if r = true then do let ok ← isTrue c (compEnvC scope cl C X.env) (eval c (compEnvC scope cl C X.env)); pure (ForInStep.yield ok) else pure (ForInStep.yield r)) (TP (X.blk s0 H0 scope (compEnvC scope cl C X.env) fp) pins σ Q) (fun _ _ => False) s
theorem starT_pt {ifs : List Expr} {scope : Scope} (s : Shared) (H : Hp) (C : Addr) (cl : List (Str × Addr)) (fp : List Addr) : PTs (X.blk s H scope (compEnvC scope cl C X.env) fp) ifs (starT X ifs scope) :=
  ⟨fun pins s1 σ H1 Q I h => h s H C cl fp pins s1 I⟩
theorem starT_sat {ifs : List Expr} {scope : Scope} {ft : FT} (h : ∀ (s : Shared) (H : Hp) (C : Addr) (cl : List (Str × Addr)) (fp : List Addr), TsD (X.blk s H scope (compEnvC scope cl C X.env) fp) ifs ft) : SatT X.K (starT X ifs scope) ft := by
  intro W F σ s p H Q d p' r e1 q s0 H0 C cl fp pins s1 I
  obtain ⟨te, pe, se⟩ := h s0 H0 C cl fp
  exact pe.run pins s1 σ H Q I (se W F σ s p H Q d p' r e1 q)
def starG (X : Cx) (tg : Expr) (scope : Scope) : TG := fun v σ H Q => ∀ (s0 : Shared) (H0 : Hp) (C : Addr) (cl : List (Str × Addr)) (fp : List Addr) (pins : List (Addr × Obj)) (s : Shared) (u : Value), Inv (X.blk s0 H0 scope (compEnvC scope cl C X.env) fp) pins σ H s → RelV v u →
  wpAny (model X.prog X.w) X.A (assign tg (compEnvC scope cl C X.env) u) (fun _ s' => ∃ σ' H', Inv (X.blk s0 H0 scope (compEnvC scope cl C X.env) fp) pins σ' H' s' ∧ Q σ' H') (fun _ _ => False) s
theorem starG_pg {tg : Expr} {scope : Scope} (s : Shared) (H : Hp) (C : Addr) (cl : List (Str × Addr)) (fp : List Addr) : PG (X.blk s H scope (compEnvC scope cl C X.env) fp) tg (starG X tg scope) :=
  ⟨fun pins s1 σ H1 v u Q I r h => h s H C cl fp pins s1 u I r⟩
theorem starG_sat {tg : Expr} {scope : Scope} {idx : List Nat} {g : FG} (h : ∀ (s : Shared) (H : Hp) (C : Addr) (cl : List (Str × Addr)) (fp : List Addr), GD (X.blk s H scope (compEnvC scope cl C X.env) fp) tg idx g) : SatG X.K (starG X tg scope) idx g := by
  intro W F σ s p H Q d v s' r a e1 hl q s0 H0 C cl fp pins s1 u I ru
  obtain ⟨te, pe, se⟩ := h s0 H0 C cl fp
  exact pe.run pins s1 σ H v u Q I ru (se W F σ s p H Q d v s' r a e1 hl q)

theorem ld_lc {elt tg iter : Expr} {ifs : List Expr} {scope : Scope} {own : List (Str × Nat)} {pos : Pos} {fi : FA} {idx : List Nat} {g : FG} {ft : FT} {fe : FE} (hN : X.N.Nodup) (hi : ID X tg iter fi) (ok : BlkOk X.N X.env.scope scope own)
    (hg : ∀ (s : Shared) (H : Hp) (C : Addr) (cl : List (Str × Addr)) (fp : List Addr), GD (X.blk s H scope (compEnvC scope cl C X.env) fp) tg idx g) (hgo : GOk idx g) (hsub : ∀ j ∈ idx, j ∈ own.map (·.2))
    (ht : ∀ (s : Shared) (H : Hp) (C : Addr) (cl : List (Str × Addr)) (fp : List Addr), TsD (X.blk s H scope (compEnvC scope cl C X.env) fp) ifs ft)
    (he : ∀ (s : Shared) (H : Hp) (C : Addr) (cl : List (Str × Addr)) (fp : List Addr), ED (X.blk s H scope (compEnvC scope cl C X.env) fp) elt fe) (hc : X.calm = true := by rfl) (hs : ∀ x, foldedSetIterable iter X.env x = pure x := by intro _; rfl) :
    LD X (.ListComp elt [⟨tg, iter, ifs, 0⟩] scope pos) (fLc (own.map (·.2)) fi g ft fe) := by
  obtain ⟨wi, pi, si⟩ := hi
  exact ⟨_, pe_lc hc hN pi ok starG_pg starT_pt starE_pe hs, satL_lc si (starG_sat hg) hgo hsub (starT_sat ht) (starE_sat he)⟩
/-- y = [..], y a local that no comprehension reads -/
theorem sd_setLc {i : Nat} {y : Str} {py : Pos} {elt tg iter : Expr} {ifs : List Expr} {scope : Scope} {own : List (Str × Nat)} {pos spos : Pos} {fi : FA} {idx : List Nat} {g : FG} {ft : FT} {fe : FE} (hN : X.N.Nodup) (hy : X.N[i]? = some y) (hyl : X.env.scope.names.lookup y = some .local)
    (hsw : swapsWith (.ListComp elt [⟨tg, iter, ifs, 0⟩] scope pos) (some (.Name y py)) spos.line X.env = pure true) (hi : ID X tg iter fi) (ok : BlkOk X.N X.env.scope scope own)
    (hg : ∀ (s : Shared) (H : Hp) (C : Addr) (cl : List (Str × Addr)) (fp : List Addr), GD (X.blk s H scope (compEnvC scope cl C X.env) fp) tg idx g) (hgo : GOk idx g) (hsub : ∀ j ∈ idx, j ∈ own.map (·.2))
    (ht : ∀ (s : Shared) (H : Hp) (C : Addr) (cl : List (Str × Addr)) (fp : List Addr), TsD (X.blk s H scope (compEnvC scope cl C X.env) fp) ifs ft)
    (he : ∀ (s : Shared) (H : Hp) (C : Addr) (cl : List (Str × Addr)) (fp : List Addr), ED (X.blk s H scope (compEnvC scope cl C X.env) fp) elt fe) (hc : X.calm = true := by rfl) (hs : ∀ x, foldedSetIterable iter X.env x = pure x := by intro _; rfl) :
    SD X (.Assign [.Name y py] (.ListComp elt [⟨tg, iter, ifs, 0⟩] scope pos) spos) (xSet i (fLst (fLc (own.map (·.2)) fi g ft fe))) := by
  obtain ⟨wi, pi, si⟩ := hi
  exact ⟨_, ps_setLc hc hN hy hyl hsw pi ok starG_pg starT_pt starE_pe hs, satS_set i (satE_of (satL_lc si (starG_sat hg) hgo hsub (starT_sat ht) (starE_sat he)))⟩
/-- the same, the list one's own; and its contents read what is one's own -/
theorem sd_setLcTh {i : Nat} {y : Str} {py : Pos} {elt tg iter : Expr} {ifs : List Expr} {scope : Scope} {own : List (Str × Nat)} {pos spos : Pos} {fi : FA} {idx : List Nat} {g : FG} {ft : FT} {fe : FE} (hN : X.N.Nodup) (hy : X.N[i]? = some y) (hyl : X.env.scope.names.lookup y = some .local)
    (hsw : swapsWith (.ListComp elt [⟨tg, iter, ifs, 0⟩] scope pos) (some (.Name y py)) spos.line X.env = pure true) (hi : ID X tg iter fi) (ok : BlkOk X.N X.env.scope scope own)
    (hg : ∀ (s : Shared) (H : Hp) (C : Addr) (cl : List (Str × Addr)) (fp : List Addr), GD (X.blk s H scope (compEnvC scope cl C X.env) fp) tg idx g) (hgo : GOk idx g) (hsub : ∀ j ∈ idx, j ∈ own.map (·.2))
    (ht : ∀ (s : Shared) (H : Hp) (C : Addr) (cl : List (Str × Addr)) (fp : List Addr), TsD (X.blk s H scope (compEnvC scope cl C X.env) fp) ifs ft)
    (he : ∀ (s : Shared) (H : Hp) (C : Addr) (cl : List (Str × Addr)) (fp : List Addr), ED (X.blk s H scope (compEnvC scope cl C X.env) fp) elt fe) (hc : X.calm = true := by rfl) (hs : ∀ x, foldedSetIterable iter X.env x = pure x := by intro _; rfl) :
    SD X (.Assign [.Name y py] (.ListComp elt [⟨tg, iter, ifs, 0⟩] scope pos) spos) (xSet i (fLst (thA (fLc (own.map (·.2)) fi g ft fe)))) := by
  obtain ⟨wi, pi, si⟩ := hi
  exact ⟨_, ps_setLc hc hN hy hyl hsw pi ok starG_pg starT_pt starE_pe hs, satS_set i (satE_of (satL_th (satL_lc si (starG_sat hg) hgo hsub (starT_sat ht) (starE_sat he))))⟩
theorem sd_ownLc {i : Nat} {y : Str} {py : Pos} {elt tg iter : Expr} {ifs : List Expr} {scope : Scope} {own : List (Str × Nat)} {pos spos : Pos} {fi : FA} {idx : List Nat} {g : FG} {ft : FT} {fe : FE} (hN : X.N.Nodup) (hy : X.N[i]? = some y) (hyl : X.env.scope.names.lookup y = some .local)
    (hsw : swapsWith (.ListComp elt [⟨tg, iter, ifs, 0⟩] scope pos) (some (.Name y py)) spos.line X.env = pure true) (hi : ID X tg iter fi) (ok : BlkOk X.N X.env.scope scope own)
    (hg : ∀ (s : Shared) (H : Hp) (C : Addr) (cl : List (Str × Addr)) (fp : List Addr), GD (X.blk s H scope (compEnvC scope cl C X.env) fp) tg idx g) (hgo : GOk idx g) (hsub : ∀ j ∈ idx, j ∈ own.map (·.2))
    (ht : ∀ (s : Shared) (H : Hp) (C : Addr) (cl : List (Str × Addr)) (fp : List Addr), TsD (X.blk s H scope (compEnvC scope cl C X.env) fp) ifs ft)
    (he : ∀ (s : Shared) (H : Hp) (C : Addr) (cl : List (Str × Addr)) (fp : List Addr), ED (X.blk s H scope (compEnvC scope cl C X.env) fp) elt fe) (hc : X.calm = true := by rfl) (hs : ∀ x, foldedSetIterable iter X.env x = pure x := by intro _; rfl) :
    SD X (.Assign [.Name y py] (.ListComp elt [⟨tg, iter, ifs, 0⟩] scope pos) spos) (xOwn i (fLc (own.map (·.2)) fi g ft fe)) := by
  obtain ⟨wi, pi, si⟩ := hi
  exact ⟨_, ps_setLc hc hN hy hyl hsw pi ok starG_pg starT_pt starE_pe hs, satS_own i (satL_lc si (starG_sat hg) hgo hsub (starT_sat ht) (starE_sat he))⟩

def spD (K : PySem.W.Frag) (S : List D → Option D) : Sp := fun vs H Q _ => ∃ F ds d, Same F H ∧ AtL K F ds vs ∧ S ds = some d ∧ ∀ v F' H', Ext F H F' H' → Same H H' → Same F' H' → At K F' d v → Q v H'
theorem satE_call {S : List D → Option D} {ta : TA} {fs : FA} (sa : SatA K ta fs) : SatE K (tCall (spD K S) [] E0 ta) (fCall S fs) := by
  intro W F σ s p H Q d p' r0 h q
  unfold fCall at h
  cases e1 : fs s p with
  | none => rw [e1] at h; cases h
  | some x =>
    rw [e1] at h
    change (S x.1).map _ = _ at h
    cases e3 : S x.1 with
    | none => rw [e3] at h; cases h
    | some z =>
      rw [e3] at h
      cases h
      refine sa W F σ s p H _ x.1 x.2 r0 e1 fun vs F1 H1 x1 r1 a1 => ?_
      refine ⟨F1, x.1, _, r1.exF, by rw [List.append_nil]; exact a1, e3, fun v F2 H2 x2 s1 s2 a2 => q v F2 H2 (x1.trans x2) (r1.grow x2 s1 s2) a2⟩
theorem ed_call {k : Nat} {f : Addr} {fd : FuncData} {ps : List Str} {S : List D → Option D} {x : Str} {p pos : Pos} {e : Expr} {es : List Expr} {fs : FA} (F : FnOk X.prog X.w X.K X.mg X.base CX0 k f fd ps (spD X.K S)) (hr : Room k X.A) (hg : Gl X x) (hm : X.mg x = some (.ref f)) (hk : PySem.W.keepIn X.K (.ref f) = true)
    (hb : Binds X.K fd ps []) (ha : AD X (e :: es) fs) (hdb : (x == ("__debug__" : Str)) = false := by decide) (he : starEach (e :: es) X.env = (false, eval e X.env) :: starEach es X.env := by rfl) (hpl : (backTo pos (starEach es X.env)).any (·.1) = false := by rfl) :
    ED X (.Call (.Name x p) (e :: es) [] pos) (fCall S fs) := by
  obtain ⟨ta, pa, sa⟩ := ha
  exact ⟨_, pe_call F hr hg hm hk hb .nil pass0 pa hdb he hpl, satE_call sa⟩
/-- a def's slots at its entry -/
def st0 (N : List Str) (ds : List D) : List Sl := ds.map .fz ++ List.replicate (N.length - ds.length) .no
theorem start_fz {N : List Str} {vs : List V} {ds : List D} {F : Hp} (h : AtL K F ds vs) {W : Wd} {H : Hp} {i : Nat} {x : Sl} (e : (st0 N ds)[i]? = some x) : SlOk K W F H (L2.start N vs)[i]? x := by
  have hl := AtL.len h
  unfold st0 at e
  by_cases hi : i < ds.length
  · rw [List.getElem?_append_left (by simpa using hi), List.getElem?_map] at e
    cases e1 : ds[i]? with
    | none => rw [e1] at e; cases e
    | some d =>
      rw [e1] at e
      cases e
      obtain ⟨v, e2, av⟩ := h.get e1
      refine ⟨v, ?_, av⟩
      unfold L2.start
      rw [List.getElem?_append_left (by rw [List.length_map]; omega), List.getElem?_map, e2]
      rfl
  · rw [List.getElem?_append_right (by simpa using hi), List.getElem?_replicate] at e
    split at e
    · cases e; trivial
    · cases e
theorem st0_noown {N : List Str} {ds : List D} {i : Nat} {x : Sl} (e : (st0 N ds)[i]? = some x) : x.own = false := by
  unfold st0 at e
  have hx := List.mem_of_getElem? e
  rcases List.mem_append.mp hx with h | h
  · obtain ⟨d, _, rfl⟩ := List.mem_map.mp h; rfl
  · rw [List.eq_of_mem_replicate h]; rfl
/-- THE RULE for a def -/
theorem fnD {P : Program} {w : World} {mg : Str → Option Value} {base : Heap} {x qual : Str} {st : Stmt} {f : Addr} {fd : FuncData} {N ps : List Str} {k : Nat} {S : List D → Option D} {g : FS} (F : Fun K x qual st f fd) (Sc : FnScope N ps (defScope st))
    (hb : ∀ (cdv : Value) (A : Around) (outer : List Env) (s : Shared) (H : Hp) (E : XK), Room k (A.deeper (envOfC qual (defScope st) s.heap.objs.size f cdv)) → SSD (cxOf CX0 P w K mg base N qual (defScope st) f cdv A outer s H E).nox (defBody st) g)
    (hS : ∀ ds d, S ds = some d → ds.length = ps.length ∧ ∀ p, ∃ o, g (st0 N ds) p = some o ∧ ((∃ p', o = .rt d p') ∨ (d = .non ∧ ∃ s' p', o = .nx s' p'))) : FnOk P w K mg base CX0 (k + 1) f fd ps (spD K S) := by
  refine F.ok Sc (fun vs H Q E h => ?_) (fun cdv A outer s H vs Q E hr h => ?_)
  · obtain ⟨F0, ds, d, _, a, hs, _⟩ := h
    rw [← AtL.len a]
    exact (hS ds d hs).1
  · obtain ⟨F0, ds, d, sm, a, hs, q⟩ := h
    obtain ⟨ts, pt, sat⟩ := hb cdv A outer s H E hr
    refine ⟨ts, pt, ?_⟩
    obtain ⟨hl, hg⟩ := hS ds d hs
    have hv : vs.length = ps.length := by rw [← AtL.len a]; exact hl
    have hN : ps.length ≤ N.length := by have := congrArg List.length Sc.pre; rw [List.length_take] at this; omega
    obtain ⟨o, ho, hend⟩ := hg ⟨[], 0, 0, 0, 0⟩
    have r : R K { u := false, A := 0, sc := 0, B := H } F0 (L2.start N vs) (st0 N ds) ⟨[], 0, 0, 0, 0⟩ H :=
      ⟨Same.refl _, sm, fun i x hx => start_fz a hx, fun i j x y b _ hx _ ox => (by rw [st0_noown hx] at ox; cases ox), fun z => (by cases z), (by simp [L2.start, st0]; omega)⟩
    refine sat _ F0 _ _ _ H _ o r r.len ho ?_
    rcases hend with ⟨p', rfl⟩ | ⟨rfl, s', p', rfl⟩
    · exact fun v F' H' x1 s1 s2 a1 _ => q v F' H' ⟨x1.ex, fun b hb => x1.fsh b (.inl hb), x1.grow⟩ s1 s2 a1
    · exact fun σ' F' H' _ x1 r1 => q .non F' H' ⟨x1.ex, fun b hb => x1.fsh b (.inl hb), x1.grow⟩ r1.exB r1.exF rfl

def HPool (sc : Addr) (P : Pool) : HO := .lst [.ref sc, .int P.a, .int P.b, .int P.c, .int P.salt]
def spP (K : PySem.W.Frag) (S : List D → Pool → Option (D × Pool)) : Sp := fun vs H Q _ => ∃ A sc F ws ds p d p', vs = .ref A :: ws ∧ Same F H ∧ F A = none ∧ H A = some (HPool sc p) ∧ F sc = some (.lst (p.ns.map .int)) ∧ sc ≠ A ∧ AtL K F ds ws ∧ S ds p = some (d, p') ∧
  ∀ v F' H', Ext F H F' H' → (∀ b o, b ≠ A → H b = some o → H' b = some o) → Same F' H' → H' A = some (HPool sc p') → F' sc = some (.lst (p'.ns.map .int)) → At K F' d v → Q v H'
def fCallP (i : Nat) (S : List D → Pool → Option (D × Pool)) (fs : FA) : FE := fun s p => match s[i]? with
  | some .pl => (fs s p).bind fun x => S x.1 x.2
  | _ => none
theorem ed_callP {k i : Nat} {f : Addr} {fd : FuncData} {ps : List Str} {S : List D → Pool → Option (D × Pool)} {x y : Str} {p p2 pos : Pos} {es : List Expr} {fs : FA} (F : FnOk X.prog X.w X.K X.mg X.base CX0 k f fd ps (spP X.K S)) (hr : Room k X.A) (hg : Gl X x) (hm : X.mg x = some (.ref f)) (hk : PySem.W.keepIn X.K (.ref f) = true)
    (hb : Binds X.K fd ps []) (ha : AD X es fs) (hN : X.N[i]? = some y := by rfl) (hv : Vis X.env.scope y := by first | exact Or.inl rfl | exact Or.inr (Or.inl rfl) | exact Or.inr (Or.inr rfl)) (hd : (y == ("__debug__" : Str)) = false := by decide) (hcd : (y == ("__classdict__" : Str)) = false := by decide)
    (hdb : (x == ("__debug__" : Str)) = false := by decide) (he : starEach (.Name y p2 :: es) X.env = (false, eval (.Name y p2) X.env) :: starEach es X.env := by rfl) (hpl : (backTo pos (starEach es X.env)).any (·.1) = false := by rfl) :
    ED X (.Call (.Name x p) (.Name y p2 :: es) [] pos) (fCallP i S fs) := by
  obtain ⟨ta, pa, sa⟩ := ha
  refine ⟨_, pe_call F hr hg hm hk hb .nil pass0 (pa_cons (pe_var hN hv hd hcd) pa he) hdb he hpl, fun W F0 σ s p H Q d p' r e1 q => ?_⟩
  unfold fCallP at e1
  split at e1
  · rename_i hs
    cases e2 : fs s p with
    | none => rw [e2] at e1; cases e1
    | some z =>
      rw [e2] at e1
      change S z.1 z.2 = some (d, p') at e1
      obtain ⟨q1, hu⟩ := r.slot i _ hs
      refine ⟨.ref W.A, q1, sa W F0 σ s p H _ z.1 z.2 r e2 fun vs F1 H1 x1 r1 a1 => ?_⟩
      obtain ⟨w1, w2, w3, w4, w5⟩ := r1.pool hu
      refine ⟨W.A, W.sc, F1, vs, z.1, z.2, d, p', by simp, r1.exF, w2, w3, w4, w5, a1, e1, fun v F2 H2 x2 s1 s2 hA hsc a2 => ?_⟩
      have hFA : F2 W.A = none := by rw [x2.fsh W.A (ne_none_of w3)]; exact w2
      refine q v F2 H2 (x1.trans x2) ⟨fun b o e => ?_, s2, fun j y hy => ?_, r1.dist, fun _ => ⟨w1, hFA, hA, hsc, w5⟩, r1.len⟩ a2
      · exact s1 b o (fun z => by rw [z, w1] at e; cases e) (r1.exB b o e)
      · have t := r1.slot j y hy
        cases y with
        | no => trivial
        | fz d => obtain ⟨u, t1, t2⟩ := t; exact ⟨u, t1, At.mono x2.ex _ _ t2⟩
        | pl => exact t
        | ol xs =>
          obtain ⟨a, o, t1, t2, t3, t4, t5, t6⟩ := t
          exact ⟨a, o, t1, t2, t3, by rw [x2.fsh a (ne_none_of t5)]; exact t4, s1 a o (t2 hu) t5, ObjD.mono x2.ex t6⟩
        | od t xs =>
          obtain ⟨a, o, t1, t2, t3, t4, t5, t6⟩ := t
          exact ⟨a, o, t1, t2, t3, by rw [x2.fsh a (ne_none_of t5)]; exact t4, s1 a o (t2 hu) t5, ObjD.mono x2.ex t6⟩
  · cases e1
def stP (N : List Str) (ds : List D) : List Sl := .pl :: (ds.map .fz ++ List.replicate (N.length - (ds.length + 1)) .no)
theorem fnP {P : Program} {w : World} {mg : Str → Option Value} {base : Heap} {x qual : Str} {st : Stmt} {f : Addr} {fd : FuncData} {N ps : List Str} {k : Nat} {S : List D → Pool → Option (D × Pool)} {g : FS} (F : Fun K x qual st f fd) (Sc : FnScope N ps (defScope st))
    (hb : ∀ (cdv : Value) (A : Around) (outer : List Env) (s : Shared) (H : Hp) (E : XK), Room k (A.deeper (envOfC qual (defScope st) s.heap.objs.size f cdv)) → SSD (cxOf CX0 P w K mg base N qual (defScope st) f cdv A outer s H E).nox (defBody st) g)
    (hS : ∀ ds p d p', S ds p = some (d, p') → ds.length + 1 = ps.length ∧ g (stP N ds) p = some (.rt d p')) : FnOk P w K mg base CX0 (k + 1) f fd ps (spP K S) := by
  refine F.ok Sc (fun vs H Q E h => ?_) (fun cdv A outer s H vs Q E hr h => ?_)
  · obtain ⟨A, sc, F0, ws, ds, p, d, p', rfl, _, _, _, _, _, a, hs, _⟩ := h
    have := (hS ds p d p' hs).1
    have h2 := AtL.len a
    simp only [List.length_cons]
    omega
  · obtain ⟨A0, sc, F0, ws, ds, p, d, p', rfl, sm, hFA, hA, hsc, hne, a, hs, q⟩ := h
    obtain ⟨ts, pt, sat⟩ := hb cdv A outer s H E hr
    refine ⟨ts, pt, ?_⟩
    obtain ⟨hl, hg⟩ := hS ds p d p' hs
    have hv := AtL.len a
    have hN : ps.length ≤ N.length := by have := congrArg List.length Sc.pre; rw [List.length_take] at this; omega
    let B : Hp := fun b => if b = A0 then none else H b
    have hBA : B A0 = none := if_pos rfl
    have hBn : ∀ b, b ≠ A0 → B b = H b := fun b hb => if_neg hb
    have smB : Same B H := fun b o e => by
      by_cases hb : b = A0
      · subst hb; rw [hBA] at e; cases e
      · rw [hBn b hb] at e; exact e
    have noown : ∀ {i : Nat} {x : Sl}, (stP N ds)[i]? = some x → x.own = false := fun {i x} e => by
      have hx := List.mem_of_getElem? e
      unfold stP at hx
      rcases List.mem_cons.mp hx with h | h
      · rw [h]; rfl
      · rcases List.mem_append.mp h with h | h
        · obtain ⟨d, _, rfl⟩ := List.mem_map.mp h; rfl
        · rw [List.eq_of_mem_replicate h]; rfl
    have r : R K { u := true, A := A0, sc := sc, B := B } F0 (L2.start N (.ref A0 :: ws)) (stP N ds) p H := by
      refine ⟨smB, sm, fun i x hx => ?_, fun i j x y b _ hx _ ox => (by rw [noown hx] at ox; cases ox), fun _ => ⟨hBA, hFA, hA, hsc, hne⟩, (by simp [L2.start, stP]; omega)⟩
      cases i with
      | zero =>
        have e : x = .pl := by
          have e : some Sl.pl = some x := hx
          cases e; rfl
        subst e
        exact ⟨rfl, rfl⟩
      | succ i =>
        have hx' : (ds.map Sl.fz ++ List.replicate (N.length - (ds.length + 1)) .no)[i]? = some x := by simpa [stP] using hx
        by_cases hi : i < ds.length
        · rw [List.getElem?_append_left (by simpa using hi), List.getElem?_map] at hx'
          cases e1 : ds[i]? with
          | none => rw [e1] at hx'; cases hx'
          | some d1 =>
            rw [e1] at hx'
            cases hx'
            obtain ⟨v, e2, av⟩ := a.get e1
            refine ⟨v, ?_, av⟩
            unfold L2.start
            rw [List.getElem?_append_left (by simp; omega), List.getElem?_map, List.getElem?_cons_succ, e2]
            rfl
        · rw [List.getElem?_append_right (by simpa using hi), List.getElem?_replicate] at hx'
          split at hx'
          · cases hx'; trivial
          · cases hx'
    refine sat _ F0 _ _ _ H _ _ r r.len hg ?_
    intro v F' H' x1 s1 s2 a1 pk
    obtain ⟨w1, w2, w3, w4, w5⟩ := pk rfl
    refine q v F' H' ⟨x1.ex, fun b hb => x1.fsh b ?_, x1.grow⟩ (fun b o hb e => s1 b o (by show B b = some o; rw [hBn b hb]; exact e)) s2 w3 w4 a1
    by_cases hb2 : b = A0
    · exact .inr ⟨rfl, hb2⟩
    · refine .inl ?_
      show B b ≠ none
      rw [hBn b hb2]; exact hb
/-- pool[k] -/
def poolAt (p : Pool) : Int → Option D
  | 0 => some (.lst (p.ns.map .int))
  | 1 => some (.int p.a)
  | 2 => some (.int p.b)
  | 3 => some (.int p.c)
  | 4 => some (.int p.salt)
  | _ => none
def fPool (i : Nat) (k : Int) : FE := fun s p => match s[i]? with
  | some .pl => (poolAt p k).map fun d => (d, p)
  | _ => none
theorem ed_pool {i : Nat} {k : Int} {j : Nat} {y : Str} {p1 p2 pos : Pos} (hN : X.N[i]? = some y := by rfl) (hv : Vis X.env.scope y := by first | exact Or.inl rfl | exact Or.inr (Or.inl rfl) | exact Or.inr (Or.inr rfl)) (hd : (y == ("__debug__" : Str)) = false := by decide) (hcd : (y == ("__classdict__" : Str)) = false := by decide) :
    ED X (.Subscript (.Name y p1) (.Constant (.int k) j p2) pos) (fPool i k) := by
  refine ⟨_, pe_ix ix_list (pe_var hN hv hd hcd) pe_int (fun _ _ => rfl), fun W F σ s p H Q d p' r e1 q => ?_⟩
  unfold fPool at e1
  split at e1
  · rename_i hs
    obtain ⟨q1, hu⟩ := r.slot i _ hs
    obtain ⟨w1, w2, w3, w4, w5⟩ := r.pool hu
    unfold poolAt at e1
    refine ⟨.ref W.A, q1, ?_⟩
    split at e1
    · cases e1
      exact ⟨W.A, _, _, _, rfl, rfl, SqL.of w3, rfl, q _ F H (Ext.refl _ _) r ⟨W.sc, _, rfl, w4, AtL.ints _⟩⟩
    · cases e1
      exact ⟨W.A, _, _, _, rfl, rfl, SqL.of w3, rfl, q _ F H (Ext.refl _ _) r rfl⟩
    · cases e1
      exact ⟨W.A, _, _, _, rfl, rfl, SqL.of w3, rfl, q _ F H (Ext.refl _ _) r rfl⟩
    · cases e1
      exact ⟨W.A, _, _, _, rfl, rfl, SqL.of w3, rfl, q _ F H (Ext.refl _ _) r rfl⟩
    · cases e1
      exact ⟨W.A, _, _, _, rfl, rfl, SqL.of w3, rfl, q _ F H (Ext.refl _ _) r rfl⟩
    · cases e1
  · cases e1
/-- pool[k] = an int -/
def poolSet (p : Pool) (k z : Int) : Option Pool := if k = 1 then some { p with a := z } else if k = 2 then some { p with b := z } else if k = 3 then some { p with c := z } else none
def xPoolSet (i : Nat) (k : Int) (fe : FE) : FS := fun s p => match s[i]? with
  | some .pl => (fe s p).bind fun x => match x.1 with
    | .int z => (poolSet x.2 k z).map fun p2 => .nx s p2
    | _ => none
  | _ => none
theorem sd_poolSet {i : Nat} {k : Int} {j : Nat} {y : Str} {e : Expr} {fe : FE} {p1 p2 p3 pos : Pos} (he : ED X e fe) (hN : X.N[i]? = some y := by rfl) (hv : Vis X.env.scope y := by first | exact Or.inl rfl | exact Or.inr (Or.inl rfl) | exact Or.inr (Or.inr rfl)) (hd : (y == ("__debug__" : Str)) = false := by decide) (hcd : (y == ("__classdict__" : Str)) = false := by decide)
    (hs : swapsWithSole [.Subscript (.Name y p1) (.Constant (.int k) j p2) p3] e pos.line X.env = pure false := by rfl) (hw : swappedStores [.Subscript (.Name y p1) (.Constant (.int k) j p2) p3] e X.env = pure none := by rfl)
    (h1 : (assignEach [.Subscript (.Name y p1) (.Constant (.int k) j p2) p3] X.env).map (·.2) = [assign (.Subscript (.Name y p1) (.Constant (.int k) j p2) p3) X.env] := by rfl) :
    SD X (.Assign [.Subscript (.Name y p1) (.Constant (.int k) j p2) p3] e pos) (xPoolSet i k fe) := by
  obtain ⟨te, pe, se⟩ := he
  refine ⟨_, ps_asg pe (pg_sub (pe_var hN hv hd hcd) pe_int set_list) hs hw h1, fun W F σ s p H Dn o r hl h q => ?_⟩
  unfold xPoolSet at h
  split at h
  · rename_i hsl
    cases e1 : fe s p with
    | none => rw [e1] at h; cases h
    | some x =>
      rw [e1] at h
      change (match x.1 with | .int z => (poolSet x.2 k z).map fun p2 => Out.nx s p2 | _ => none) = some o at h
      refine se W F σ s p H _ x.1 x.2 r e1 fun v F1 H1 x1 r1 a1 => ?_
      split at h
      · rename_i z hz
        rw [hz] at a1
        cases a1
        obtain ⟨q1, hu⟩ := r1.slot i _ hsl
        obtain ⟨w1, w2, w3, w4, w5⟩ := r1.pool hu
        refine ⟨.ref W.A, q1, ?_⟩
        have fin : ∀ (j : Nat) (P2 : Pool), ixN 5 k = some j → poolSet x.2 k z = some P2 → P2.ns = x.2.ns → ([V.ref W.sc, .int x.2.a, .int x.2.b, .int x.2.c, .int x.2.salt].set j (.int z)) = [V.ref W.sc, .int P2.a, .int P2.b, .int P2.c, .int P2.salt] →
            rSetL (.ref W.A) (.int k) (.int z) H1 fun H3 => Dn.nx σ H3 := fun j P2 hj h2 hns hset => by
          rw [h2] at h
          cases h
          refine ⟨W.A, _, k, j, rfl, rfl, w3, hj, ?_⟩
          rw [hset]
          refine q σ F1 _ hl ((x1.trans (Ext.heap grow_upd)).s r) ⟨upd_over r1.exB w1, upd_over r1.exF w2, fun m y hy => ?_, r1.dist, fun _ => ⟨w1, w2, upd_same, by rw [hns]; exact w4, w5⟩, r1.len⟩
          have t := r1.slot m y hy
          cases y with
          | no => trivial
          | fz d => exact t
          | pl => exact t
          | ol xs =>
            obtain ⟨a, o, t1, t2, t3, t4, t5, t6⟩ := t
            exact ⟨a, o, t1, t2, t3, t4, by rw [upd_ne (t2 hu)]; exact t5, t6⟩
          | od t xs =>
            obtain ⟨a, o, t1, t2, t3, t4, t5, t6⟩ := t
            exact ⟨a, o, t1, t2, t3, t4, by rw [upd_ne (t2 hu)]; exact t5, t6⟩
        by_cases k1 : k = 1
        · subst k1; exact fin 1 _ rfl rfl rfl rfl
        · by_cases k2 : k = 2
          · subst k2; exact fin 2 _ rfl rfl rfl rfl
          · by_cases k3 : k = 3
            · subst k3; exact fin 3 _ rfl rfl rfl rfl
            · unfold poolSet at h
              rw [if_neg k1, if_neg k2, if_neg k3] at h
              cases h
      · cases h
  · cases h
def spNew (K : PySem.W.Frag) (S : List D → Option Pool) : Sp := fun vs H Q _ => ∃ F ds p, Same F H ∧ AtL K F ds vs ∧ S ds = some p ∧ ∀ A sc F' H', Ext F H F' H' → Same H H' → Same F' H' → H A = none → F' A = none → H' A = some (HPool sc p) → F' sc = some (.lst (p.ns.map .int)) → sc ≠ A → Q (.ref A) H'
/-- pool = f(..); rest: no thing of one's own yet, and the rest ends with return -/
def plain1 : Sl → Bool
  | .no => true
  | .fz _ => true
  | _ => false
def xPoolNew (i : Nat) (S : List D → Option Pool) (fs : FA) (b : FS) : FS := fun s p => if s.all plain1 = true ∧ i < s.length then (fs s p).bind fun x => (S x.1).bind fun P => (b (s.set i .pl) P).bind fun o => match o with
  | .rt d p2 => some (.rt d p2)
  | _ => none else none
theorem ssd_poolNew {k i : Nat} {f : Addr} {fd : FuncData} {ps : List Str} {S : List D → Option Pool} {x y : Str} {p p2 p3 pos : Pos} {e : Expr} {es : List Expr} {fs : FA} {rest : List Stmt} {b : FS} (F : FnOk X.prog X.w X.K X.mg X.base CX0 k f fd ps (spNew X.K S)) (hr : Room k X.A) (hg : Gl X x) (hm : X.mg x = some (.ref f)) (hk : PySem.W.keepIn X.K (.ref f) = true)
    (hb : Binds X.K fd ps []) (ha : AD X (e :: es) fs) (hrest : SSD X rest b) (hN : X.N.Nodup) (hi : X.N[i]? = some y) (hx : Loc X.env.scope y) (hs : swapsWith (.Call (.Name x p) (e :: es) [] pos) (some (.Name y p2)) p3.line X.env = pure false := by rfl) (hf : X.fn y = true ∨ X.env.scope.names.lookup y = some .local := by first | exact .inl rfl | exact .inr rfl | assumption)
    (hdb : (x == ("__debug__" : Str)) = false := by decide) (he : starEach (e :: es) X.env = (false, eval e X.env) :: starEach es X.env := by rfl) (hpl : (backTo pos (starEach es X.env)).any (·.1) = false := by rfl) (hu : ∀ W : Wd, W.u = false → True := by exact fun _ _ => trivial) :
    ∃ ts, PSs X (.Assign [.Name y p2] (.Call (.Name x p) (e :: es) [] pos) p3 :: rest) ts ∧ ∀ W F σ s p H Dn d p', W.u = false → R X.K W F σ s p H → xPoolNew i S fs b s p = some (.rt d p') →
      (∀ v F' H', ExtS W F H F' H' → Same W.B H' → Same F' H' → At X.K F' d v → Dn.rt v H') → ts Dn σ H := by
  obtain ⟨ta, pa, sa⟩ := ha
  obtain ⟨tr, pr, sr⟩ := hrest
  refine ⟨_, pss_cons (ps_set hN hi hx (pe_call F hr hg hm hk hb .nil pass0 pa hdb he hpl) hs hf) pr, fun W F0 σ s p H Dn d p' hWu r h q => ?_⟩
  unfold xPoolNew at h
  split at h
  · rename_i hpl
    obtain ⟨hpl, hil⟩ := hpl
    cases e1 : fs s p with
    | none => rw [e1] at h; cases h
    | some z =>
      rw [e1] at h
      change (S z.1).bind _ = some (Out.rt d p') at h
      cases e2 : S z.1 with
      | none => rw [e2] at h; cases h
      | some P =>
        rw [e2] at h
        change (b (s.set i .pl) P).bind _ = some (Out.rt d p') at h
        cases e3 : b (s.set i .pl) P with
        | none => rw [e3] at h; cases h
        | some o =>
          rw [e3] at h
          cases o with
          | rt d2 p2 =>
            cases h
            refine sa W F0 σ s p H _ z.1 z.2 r e1 fun vs F1 H1 x1 r1 a1 => ?_
            refine ⟨F1, z.1, P, r1.exF, by rw [List.append_nil]; exact a1, e2, fun A sc F2 H2 x2 s1 s2 hA hFA hHA hsc hne => ?_⟩
            have rr : R X.K { W with u := true, A := A, sc := sc } F2 (σ.set i (some (.ref A))) (s.set i .pl) P H2 := by
              have smB : Same W.B H2 := r1.exB.trans s1
              have hBA : W.B A = none := by
                cases hb : W.B A with
                | none => rfl
                | some ob => rw [r1.exB _ _ hb] at hA; cases hA
              refine ⟨smB, s2, fun j y hy => ?_, fun j m y z a _ hy _ oy => ?_, fun _ => ⟨hBA, hFA, hHA, hsc, hne⟩, by simp [r.len]⟩
              · by_cases hj : i = j
                · subst hj
                  rw [List.getElem?_set_self hil] at hy
                  cases hy
                  exact ⟨by rw [List.getElem?_set_self (by rw [r.len]; exact hil)], rfl⟩
                · rw [List.getElem?_set_ne hj] at hy ⊢
                  have t := r1.slot j y hy
                  have pl := List.all_eq_true.mp hpl y (List.mem_of_getElem? hy)
                  cases y with
                  | no => trivial
                  | fz d => obtain ⟨u, t1, t2⟩ := t; exact ⟨u, t1, At.mono x2.ex _ _ t2⟩
                  | pl => cases pl
                  | ol xs => cases pl
                  | od t xs => cases pl
              · by_cases hj : i = j
                · subst hj
                  rw [List.getElem?_set_self hil] at hy
                  cases hy
                  cases oy
                · rw [List.getElem?_set_ne hj] at hy
                  have pl := List.all_eq_true.mp hpl y (List.mem_of_getElem? hy)
                  cases y with
                  | no => cases oy
                  | fz d => cases oy
                  | pl => cases oy
                  | ol xs => cases pl
                  | od t xs => cases pl
            refine sr _ F2 _ _ P H2 Dn _ rr rr.len e3 ?_
            intro v F3 H3 x3 s3 s4 a3 _
            refine q v F3 H3 ⟨(x1.ex.trans x2.ex).trans x3.ex, fun a ha => ?_, fun a ha => x3.grow a (x2.grow a (x1.grow a ha))⟩ s3 s4 a3
            have ha' : W.B a ≠ none := by
              rcases ha with ha | ⟨hu, _⟩
              · exact ha
              · rw [hWu] at hu; cases hu
            obtain ⟨ob, eb⟩ := some_of_ne ha'
            rw [x3.fsh a (.inl ha'), x2.fsh a (ne_none_of (r1.exB _ _ eb)), x1.fsh a (ne_none_of (r.exB _ _ eb))]
          | nx _ _ => cases h
          | bk _ _ => cases h
          | ct _ _ => cases h
  · cases h
/-- what the law promises -/
def spLawD (K : PySem.W.Frag) : Sp := fun vs H Q _ => ∃ (a : Addr) (ns : List Int), vs = [.ref a] ∧ SqL K H a (ns.map V.int) ∧ ns.length ≤ 63 ∧ ∀ H', Q (.bl true) H'
theorem fnLaw {P : Program} {w : World} {mg : Str → Option Value} {base : Heap} {x qual : Str} {st : Stmt} {f : Addr} {fd : FuncData} {N : List Str} {k : Nat} {y : Str} {g : FS} (F : Fun K x qual st f fd) (Sc : FnScope N [y] (defScope st))
    (hb : ∀ (cdv : Value) (A : Around) (outer : List Env) (s : Shared) (H : Hp) (E : XK), Room k (A.deeper (envOfC qual (defScope st) s.heap.objs.size f cdv)) →
      ∃ ts, PSs (cxOf CX0 P w K mg base N qual (defScope st) f cdv A outer s H E).nox (defBody st) ts ∧ ∀ W F σ s p H Dn d p', W.u = false → R K W F σ s p H → g s p = some (.rt d p') →
        (∀ v F' H', ExtS W F H F' H' → Same W.B H' → Same F' H' → At K F' d v → Dn.rt v H') → ts Dn σ H)
    (hS : ∀ ns : List Int, ns.length ≤ 63 → ∃ p', g (st0 N [.ro (ns.map .int)]) ⟨[], 0, 0, 0, 0⟩ = some (.rt (.bl true) p')) : FnOk P w K mg base CX0 (k + 1) f fd [y] (spLawD K) := by
  refine F.ok Sc (fun vs H Q E h => ?_) (fun cdv A outer s H vs Q E hr h => ?_)
  · obtain ⟨a, ns, rfl, _⟩ := h
    rfl
  · obtain ⟨a, ns, rfl, hsq, hl, q⟩ := h
    obtain ⟨ts, pt, sat⟩ := hb cdv A outer s H E hr
    refine ⟨ts, pt, ?_⟩
    obtain ⟨p', hp⟩ := hS ns hl
    have hN : 1 ≤ N.length := by have := congrArg List.length Sc.pre; rw [List.length_take] at this; simp at this; omega
    have a0 : AtL K H [D.ro (ns.map .int)] [V.ref a] := ⟨_, _, rfl, ⟨a, _, rfl, hsq, AtL.ints ns⟩, rfl⟩
    have r : R K { u := false, A := 0, sc := 0, B := H } H (L2.start N [.ref a]) (st0 N [.ro (ns.map .int)]) ⟨[], 0, 0, 0, 0⟩ H :=
      ⟨Same.refl _, Same.refl _, fun i x hx => start_fz a0 hx, fun i j x y b _ hx _ ox => (by rw [st0_noown hx] at ox; cases ox), fun z => (by cases z), (by simp [L2.start, st0])⟩
    refine sat _ H _ _ _ H _ (.bl true) p' rfl r hp fun v F' H' _ _ _ av => ?_
    cases av
    exact q H'
end
end DL

namespace DL
open PySem PySem.Spec PyProof.Rows L2

theorem lex_irrefl : ∀ a : List Int, HT.lexLt a a = false
  | [] => rfl
  | x :: xs => by rw [HT.lexLt_cons, if_pos rfl]; exact lex_irrefl xs
theorem lex_asym : ∀ a b : List Int, HT.lexLt a b = true → HT.lexLt b a = false
  | [], [], h => by cases h
  | [], _ :: _, _ => rfl
  | _ :: _, [], h => by cases h
  | x :: xs, y :: ys, h => by
    rw [HT.lexLt_cons] at h ⊢
    by_cases e : x = y
    · rw [if_pos e] at h
      rw [if_pos e.symm]
      exact lex_asym xs ys h
    · rw [if_neg e] at h
      rw [if_neg (fun z => e z.symm)]
      have := of_decide_eq_true h
      exact decide_eq_false (by omega)
theorem lex_tr : ∀ a b c : List Int, HT.lexLt b a = false → HT.lexLt c b = false → HT.lexLt c a = false
  | [], _, [], _, _ => rfl
  | a :: as, _, [], h1, h2 => by
    rename_i b
    cases b with
    | nil => cases h1
    | cons y ys => cases h2
  | [], _, c :: cs, _, _ => rfl
  | a :: as, [], c :: cs, h1, h2 => by cases h1
  | a :: as, b :: bs, c :: cs, h1, h2 => by
    rw [HT.lexLt_cons] at h1 h2 ⊢
    by_cases e1 : b = a
    · rw [if_pos e1] at h1
      by_cases e2 : c = b
      · rw [if_pos e2] at h2
        rw [if_pos (e2.trans e1)]
        exact lex_tr as bs cs h1 h2
      · rw [if_neg e2] at h2
        rw [if_neg (by omega), ← e1]
        exact h2
    · rw [if_neg e1] at h1
      have g1 := of_decide_eq_false h1
      by_cases e2 : c = b
      · rw [if_neg (by omega), e2]
        exact h1
      · rw [if_neg e2] at h2
        have g2 := of_decide_eq_false h2
        rw [if_neg (by omega)]
        exact decide_eq_false (by omega)
theorem lex_eq : ∀ a b : List Int, HT.lexLt a b = false → HT.lexLt b a = false → a = b
  | [], [], _, _ => rfl
  | [], _ :: _, h, _ => by cases h
  | _ :: _, [], _, h => by cases h
  | x :: xs, y :: ys, h1, h2 => by
    rw [HT.lexLt_cons] at h1 h2
    by_cases e : x = y
    · rw [if_pos e] at h1
      rw [if_pos e.symm] at h2
      rw [e, lex_eq xs ys h1 h2]
    · rw [if_neg e] at h1
      rw [if_neg (fun z => e z.symm)] at h2
      have g1 := of_decide_eq_false h1
      have g2 := of_decide_eq_false h2
      omega
theorem swo_lexL {α : Type} (k : α → List Int) : SrtO.Swo fun v u => HT.lexLt (k v) (k u) := ⟨fun x y => lex_asym _ _, fun x y z => lex_tr _ _ _⟩
def lexLe (a b : List Int) : Bool := !HT.lexLt b a
/-- by insertion -/
def insBy {α : Type} (le : α → α → Bool) (x : α) : List α → List α
  | [] => [x]
  | y :: ys => if le x y = true then x :: y :: ys else y :: insBy le x ys
def isort {α : Type} (le : α → α → Bool) : List α → List α
  | [] => []
  | x :: xs => insBy le x (isort le xs)
theorem insBy_perm {α : Type} (le : α → α → Bool) (x : α) : ∀ ys : List α, (insBy le x ys).Perm (x :: ys)
  | [] => List.Perm.refl _
  | y :: ys => by
    unfold insBy
    split
    · exact List.Perm.refl _
    · exact ((insBy_perm le x ys).cons y).trans (List.Perm.swap x y ys)
theorem isort_perm {α : Type} (le : α → α → Bool) : ∀ xs : List α, (isort le xs).Perm xs
  | [] => List.Perm.refl _
  | x :: xs => (insBy_perm le x _).trans ((isort_perm le xs).cons x)
theorem insBy_sorted {α : Type} {le : α → α → Bool} (tr : ∀ a b c, le a b = true → le b c = true → le a c = true) (tot : ∀ a b, le a b = true ∨ le b a = true) (x : α) : ∀ {ys : List α}, ys.Pairwise (fun a b => le a b = true) → (insBy le x ys).Pairwise fun a b => le a b = true
  | [], _ => List.pairwise_singleton _ _
  | y :: ys, h => by
    obtain ⟨h1, h2⟩ := List.pairwise_cons.mp h
    unfold insBy
    split
    · rename_i hx
      exact List.pairwise_cons.mpr ⟨fun z hz => by
        rcases List.mem_cons.mp hz with rfl | hz
        · exact hx
        · exact tr _ _ _ hx (h1 z hz), h⟩
    · rename_i hx
      refine List.pairwise_cons.mpr ⟨fun z hz => ?_, insBy_sorted tr tot x h2⟩
      rcases List.mem_cons.mp ((insBy_perm le x ys).mem_iff.mp hz) with rfl | hz
      · rcases tot y z with t | t
        · exact t
        · exact absurd t hx
      · exact h1 z hz
theorem isort_sorted {α : Type} {le : α → α → Bool} (tr : ∀ a b c, le a b = true → le b c = true → le a c = true) (tot : ∀ a b, le a b = true ∨ le b a = true) : ∀ xs : List α, (isort le xs).Pairwise fun a b => le a b = true
  | [] => List.Pairwise.nil
  | x :: xs => insBy_sorted tr tot x (isort_sorted tr tot xs)
/-- in Python's order -/
def sortL (xs : List (List Int)) : List (List Int) := isort lexLe xs
theorem sortL_perm (xs : List (List Int)) : (sortL xs).Perm xs := isort_perm lexLe xs
theorem sortL_sorted (xs : List (List Int)) : (sortL xs).Pairwise fun a b => lexLe a b = true := by
  refine isort_sorted (fun a b c h1 h2 => ?_) (fun a b => ?_) xs
  · unfold lexLe at *
    simp only [Bool.not_eq_true'] at *
    exact lex_tr a b c h1 h2
  · unfold lexLe
    cases h : HT.lexLt b a with
    | false => exact .inl rfl
    | true => rw [lex_asym _ _ h]; exact .inr rfl
/-- two sorted lists of the same things are one -/
theorem sorted_same {xs ys : List (List Int)} (p : xs.Perm ys) (h1 : xs.Pairwise fun a b => HT.lexLt b a = false) (h2 : ys.Pairwise fun a b => HT.lexLt b a = false) : xs = ys :=
  List.Perm.eq_of_pairwise (fun a b _ _ h h' => lex_eq a b h' h) h1 h2 p
theorem sortL_uniq {xs ys : List (List Int)} (p : xs.Perm ys) (h1 : xs.Pairwise fun a b => HT.lexLt b a = false) : xs = sortL ys :=
  sorted_same (p.trans (sortL_perm ys).symm) h1 ((sortL_sorted ys).imp fun h => by unfold lexLe at h; simpa using h)
def sortI (xs : List Int) : List Int := isort (fun a b => decide (a ≤ b)) xs
theorem sortI_perm (xs : List Int) : (sortI xs).Perm xs := isort_perm _ xs
theorem sortI_sorted (xs : List Int) : (sortI xs).Pairwise (· ≤ ·) := by
  refine (isort_sorted (le := fun a b : Int => decide (a ≤ b)) (fun a b c h1 h2 => ?_) (fun a b => ?_) xs).imp fun h => of_decide_eq_true h
  · have := of_decide_eq_true h1
    have := of_decide_eq_true h2
    exact decide_eq_true (by omega)
  · simp only [decide_eq_true_eq]
    omega
theorem sortI_uniq {xs ys : List Int} (p : xs.Perm ys) (h1 : xs.Pairwise (· ≤ ·)) : xs = sortI ys :=
  List.Perm.eq_of_pairwise (fun a b _ _ h h' => Int.le_antisymm h h') h1 (sortI_sorted ys) (p.trans (sortI_perm ys).symm)

/-- a tuple of ints -/
def TupI (h : Heap) (v : Value) (ns : List Int) : Prop := ∃ a its, v = .ref a ∧ IsTup h a its.toArray ∧ IntsAre its ns
theorem TupI.keeps {h h' : Heap} {v : Value} {ns : List Int} (p : TupI h v ns) (k : ∀ b o, h.get? b = some o → o.cls = .type "tuple" → h'.get? b = some o) : TupI h' v ns := by
  obtain ⟨a, its, e, ⟨o, ho, hc, n, hd⟩, hi⟩ := p
  exact ⟨a, its, e, ⟨o, k a o ho hc, hc, n, hd⟩, hi⟩
theorem TupI.inj {h : Heap} {v : Value} {ns ms : List Int} (p : TupI h v ns) (q : TupI h v ms) : ns = ms := by
  obtain ⟨a, its, rfl, ⟨o, ho, hc, n, hd⟩, hi⟩ := p
  obtain ⟨a', its', e, ⟨o', ho', hc', n', hd'⟩, hi'⟩ := q
  cases e
  rw [ho] at ho'
  cases ho'
  rw [hd] at hd'
  injection hd' with e1 _
  have e2 : its = its' := by simpa using congrArg Array.toList e1
  subst e2
  have f1 := vals_of_ints hi
  have f2 := vals_of_ints hi'
  have e3 := Vals.inj f1 f2
  have g : ∀ {as bs : List Int}, as.map V.int = bs.map V.int → as = bs := fun {as} => by
    induction as with
    | nil => intro bs h; cases bs with
      | nil => rfl
      | cons _ _ => cases h
    | cons x xs ih => intro bs h; cases bs with
      | nil => cases h
      | cons y ys => injection h with h1 h2; injection h1 with h1; rw [h1, ih h2]
  exact g e3
open Classical in
noncomputable def keyOf (h : Heap) (v : Value) : List Int := if q : ∃ ns, TupI h v ns then Classical.choose q else []
theorem keyOf_eq {h : Heap} {v : Value} {ns : List Int} (p : TupI h v ns) : keyOf h v = ns := by
  unfold keyOf
  have q : ∃ ns, TupI h v ns := ⟨ns, p⟩
  rw [dif_pos q]
  exact (Classical.choose_spec q).inj p
section
variable {prog : Program} {w : World} {A : Around} {E : Value → Shared → Prop} {s : Shared}
theorem kat_ints {fin : Bool} {Q : Bool → Shared → Prop} : ∀ {xs ys : List Value} {ns ms : List Int} (i : Nat), IntsAre xs ns → IntsAre ys ms → fin = decide (xs.length < ys.length) → Q (HT.lexLt ns ms) s → PySem.W.KatLex prog w A true fin Q (xs.zip ys) i s
  | _, _, _, _, i, .nil, .nil, hf, q => by
    subst hf
    exact PySem.W.kat_nil q
  | _, _, _, _, i, .nil, .cons _ _ _, hf, q => by
    subst hf
    refine PySem.W.kat_nil ?_
    rw [decide_eq_true (by simp)]
    exact q
  | _, _, _, _, i, .cons _ _ _, .nil, hf, q => by
    subst hf
    refine PySem.W.kat_nil ?_
    rw [decide_eq_false (by simp)]
    exact q
  | _, _, _, _, i, .cons x t r, .cons y u r', hf, q => by
    rw [HT.lexLt_cons] at q
    refine PySem.W.kat_cons (SeqAt.EqAt.int_int x t y u prog w _ _ ?_)
    refine PySem.W.kat_go (fun e1 => ?_) (fun e1 => ?_)
    · have ex : x = y := by simpa using e1
      rw [if_pos ex] at q
      exact PySem.W.kat_yes (kat_ints (i + 1) r r' (by rw [hf]; simp) q)
    · have ex : ¬ x = y := by simpa using e1
      rw [if_neg ex] at q
      by_cases hi : i = 0
      · subst hi
        exact PySem.W.kat_no (oneLt_int q)
      · have e2 : (true && i == 0) = false := by simp [hi]
        refine PySem.W.kat_no ?_
        rw [e2]
        exact PySem.W.kat_one _ _ (PyProof.Rows.lt_int q)
theorem rows_cmp {vs : List Value} {k : Value → List Int} (hp : ∀ v ∈ vs, TupI s.heap v (k v)) : SrtO.Cmp prog w A s (tuples' true) (fun p => p.1 ∈ vs) (SrtO.lt2 fun v u => HT.lexLt (k v) (k u)) := by
  intro p q hm hm'
  obtain ⟨a, its, e, ⟨o, ho, hc, n, hd⟩, hi⟩ := hp _ hm
  obtain ⟨a', its', e', ⟨o', ho', hc', n', hd'⟩, hi'⟩ := hp _ hm'
  show wpAny (model prog w) A (keyLt' (tuples' true) p.1 q.1) (fun r s' => s' = s ∧ r = HT.lexLt (k p.1) (k q.1)) (fun _ _ => False) s
  generalize k p.1 = ns at hi ⊢
  generalize k q.1 = ms at hi' ⊢
  rw [e, e']
  refine PySem.W.kat_lt ho hd ho' hd' ?_
  exact kat_ints 0 (by simpa using hi) (by simpa using hi') (by simp) ⟨rfl, rfl⟩
theorem rows_firsts {h : Heap} : ∀ {vs : List Value} {k : Value → List Int}, (∀ v ∈ vs, TupI h v (k v)) → (∀ v ∈ vs, k v ≠ []) → ∃ fs, PySem.W.KatTups h vs fs ∧ fs.length = vs.length ∧ ∀ f ∈ fs, ∃ x t, f = Value.int x t
  | [], k, _, _ => ⟨[], .nil, rfl, fun _ h => (by cases h)⟩
  | v :: vs, k, hp, hn => by
    obtain ⟨fs, h1, h2, h3⟩ := rows_firsts (vs := vs) (k := k) (fun u m => hp u (List.mem_cons_of_mem _ m)) (fun u m => hn u (List.mem_cons_of_mem _ m))
    obtain ⟨a, its, e, ⟨o, ho, hc, n, hd⟩, hi⟩ := hp v List.mem_cons_self
    have hne := hn v List.mem_cons_self
    generalize k v = ns at hi hne
    cases hi with
    | nil => exact absurd rfl hne
    | cons x t r =>
      subst e
      refine ⟨_ :: fs, PySem.W.KatTups.cons ho hc hd (by simp; rfl) h1, by simp [h2], fun f m => ?_⟩
      rcases List.mem_cons.mp m with rfl | m
      · exact ⟨x, t, rfl⟩
      · exact h3 f m
theorem rows_sortableO {a : Addr} {vs : List Value} {k : Value → List Int} (h0 : 0 < vs.length) (hp : ∀ v ∈ vs, TupI s.heap v (k v)) (hne : ∀ v ∈ vs, k v ≠ []) (ha : ∀ o, s.heap.get? a = some o → o.cls ≠ .type "tuple") : SrtO.SortableO prog w A s a vs fun v u => HT.lexLt (k v) (k u) := by
  intro h' keep
  have hp' : ∀ v ∈ vs, TupI h' v (k v) := fun v hm => (hp v hm).keeps fun b o e c => keep b o (fun z => by subst z; exact ha o e c) e
  obtain ⟨fs, h1, h2, h3⟩ := rows_firsts hp' hne
  refine ⟨tuples' true, fun Q E hq => ?_, rows_cmp hp'⟩
  refine PySem.W.kat_kind (T := .type "int") h1 (by omega) (fun f hm => ?_) (by rfl) ?_
  · obtain ⟨x, t, rfl⟩ := h3 f hm
    exact PySem.W.Looks.now
  · have e : (Value.type "int" != Value.type "tuple") = true := by first | decide +kernel | rfl | decide
    rw [e]
    exact hq
end
def rSortedR (K : PySem.W.Frag) : List V → Hp → VK → Prop := fun vs H Q => ∃ (a : Addr) (ys : List V) (k : V → List Int), vs = [V.ref a] ∧ SqL K H a ys ∧ (∀ y ∈ ys, ∃ t, y = V.ref t ∧ SqT K H t ((k y).map V.int)) ∧ (ys.length ≤ 1 ∨ ∀ y ∈ ys, k y ≠ []) ∧
  ∀ (zs : List V) (p : Addr), zs.Perm ys → (zs.Pairwise fun u v => HT.lexLt (k v) (k u) = false) → H p = none → Q (.ref p) (upd H p (.lst zs))
theorem refs_backL {ys : List V} {its : List Value} (r : Vals ys its) (h : ∀ y ∈ ys, ∃ t, y = V.ref t) : ys = its.map backV ∧ ∀ v ∈ its, ∃ a, v = Value.ref a := by
  exact refs_back r h
section
variable {X : Cx}
theorem cr_sortedR : CallR X (.builtin "sorted") (rSortedR X.K) := by
  intro pins s σ H vs us Q I r h
  obtain ⟨a, ys, k, rfl, hs, hx, hz1, q⟩ := h
  obtain ⟨its, rv, hl, hz⟩ := I.list hs
  rw [Vals.ref1 r]
  obtain ⟨e1, e2⟩ := refs_back rv fun x m => by
    obtain ⟨t, e, _⟩ := hx x m
    exact ⟨t, e⟩
  have hp : ∀ v ∈ its, TupI s.heap v (k (backV v)) := fun v hv => by
    obtain ⟨t, rfl⟩ := e2 v hv
    have hm : V.ref t ∈ ys := by rw [e1]; exact List.mem_map.mpr ⟨_, hv, rfl⟩
    obtain ⟨t', e, ht⟩ := hx _ hm
    cases e
    obtain ⟨its2, r2, p2, _⟩ := I.tuple ht
    exact ⟨t, its2, rfl, p2, r2.ints⟩
  refine SrtO.sorted_ord (swo_lexL fun u => k (backV u)) hl.isList (by rw [← rv.length]; exact hz) (fun h2 h₁ a' ha kk => ?_) fun out h1 h2 => ?_
  · refine rows_sortableO (s := { s with heap := h₁ }) (by omega) (fun v hm => (hp v hm).keeps fun b o e _ => (kk b o e).2) (fun v hm => ?_) fun o e => ?_
    · rcases hz1 with z | z
      · have := rv.length
        omega
      · exact z _ (by rw [e1]; exact List.mem_map.mpr ⟨_, hm, rfl⟩)
    · have e' : some o = some (seqObj "list" its.toArray 0) := e.symm.trans ha
      cases e'
      intro c
      exact absurd (Value.type.inj c) (by decide)
  · have h3 : ∀ u ∈ out, ∃ a, u = Value.ref a := fun u hu => e2 u (h2.perm.mem_iff.mp hu)
    obtain ⟨ep, he'⟩ := PyProof.Rows.sortedAll_at s.heap its out.toArray
    have hperm : (out.map backV).Perm ys := by rw [e1]; exact h2.perm.map backV
    have hlen : (out.map backV).length ≤ sizeLine := by rw [hperm.length_eq]; exact hz
    have hs : (out.map backV).Pairwise fun u v => HT.lexLt (k v) (k u) = false := List.pairwise_map.mpr h1
    exact ⟨.ref _, upd H (s.heap.objs.size + 1) (.lst (out.map backV)), I.laid (t' := s.toks) (fun _ _ => PyProof.Rows.sortedAll_old) (Nat.le_succ _) ⟨hlen, out, ep, vals_back h3, he'⟩, rfl, q _ _ hperm hs (I.hok.fresh (Nat.le_succ _))⟩
end
def rowI? : D → Option (List Int)
  | .tup xs => ints? xs
  | _ => none
def rowsI? : List D → Option (List (List Int))
  | [] => some []
  | d :: ds => (rowI? d).bind fun r => (rowsI? ds).map (r :: ·)
abbrev tupI (ns : List Int) : D := .tup (ns.map D.int)
theorem rowI?_eq {d : D} {r : List Int} (h : rowI? d = some r) : d = tupI r := by
  unfold rowI? at h
  split at h
  · rw [ints?_eq h]
  · cases h
theorem rowsI?_eq : ∀ {ds : List D} {rs : List (List Int)}, rowsI? ds = some rs → ds = rs.map tupI
  | [], rs, h => by cases h; rfl
  | d :: ds, rs, h => by
    unfold rowsI? at h
    cases e1 : rowI? d with
    | none => rw [e1] at h; cases h
    | some r =>
      rw [e1] at h
      change (rowsI? ds).map _ = _ at h
      cases e2 : rowsI? ds with
      | none => rw [e2] at h; cases h
      | some q =>
        rw [e2] at h
        cases h
        rw [rowI?_eq e1, rowsI?_eq e2]
        rfl
@[simp] theorem rowI?_tupI (r : List Int) : rowI? (tupI r) = some r := ints?_map r
@[simp] theorem rowsI?_map : ∀ rs : List (List Int), rowsI? (rs.map tupI) = some rs
  | [] => rfl
  | r :: rs => by
    show (rowI? (tupI r)).bind _ = _
    rw [rowI?_tupI]
    show (rowsI? (rs.map tupI)).map _ = _
    rw [rowsI?_map rs]
    rfl
def sortRD : List D → Option (List D)
  | [.lst xs] => (rowsI? xs).bind fun rs => if (decide (rs.length ≤ 1) || rs.all fun r => !r.isEmpty) = true then some ((sortL rs).map tupI) else none
  | _ => none
def sortID : List D → Option (List D)
  | [.lst xs] => (ints? xs).map fun ns => (sortI ns).map D.int
  | [.tup xs] => none
  | _ => none
section
variable {K : PySem.W.Frag} {F : Hp}
theorem at_rows : ∀ {rs : List (List Int)} {vs : List V}, AtL K F (rs.map tupI) vs → ∀ y ∈ vs, ∃ t r, y = V.ref t ∧ r ∈ rs ∧ F t = some (.tup (r.map V.int))
  | [], _, h => by cases h; intro y m; cases m
  | r :: rs, _, h => by
    obtain ⟨v, t, rfl, ⟨a, us, rfl, h1, h2⟩, h3⟩ := h
    intro y m
    rcases List.mem_cons.mp m with rfl | m
    · rw [AtL.ints_inv h2] at h1
      exact ⟨a, r, rfl, List.mem_cons_self, h1⟩
    · obtain ⟨t, r', e, m', hs⟩ := at_rows h3 y m
      exact ⟨t, r', e, List.mem_cons_of_mem _ m', hs⟩
theorem vints_inj : ∀ {as bs : List Int}, as.map V.int = bs.map V.int → as = bs
  | [], [], _ => rfl
  | [], _ :: _, h => by cases h
  | _ :: _, [], h => by cases h
  | x :: xs, y :: ys, h => by injection h with h1 h2; injection h1 with h1; rw [h1, vints_inj h2]
open Classical in
noncomputable def keyV (F : Hp) (v : V) : List Int := if h : ∃ (t : Addr) (r : List Int), v = V.ref t ∧ F t = some (.tup (r.map V.int)) then Classical.choose (Classical.choose_spec h) else []
theorem keyV_spec {F : Hp} {v : V} (h : ∃ (t : Addr) (r : List Int), v = V.ref t ∧ F t = some (.tup (r.map V.int))) : ∃ t, v = V.ref t ∧ F t = some (.tup ((keyV F v).map V.int)) := by
  unfold keyV
  rw [dif_pos h]
  exact ⟨_, Classical.choose_spec (Classical.choose_spec h)⟩
end
section
variable {X : Cx} {K : PySem.W.Frag}
/-- sorted(x) of tuples of ints: the keys are the rows themselves -/
def rSortedR2 (K : PySem.W.Frag) : List V → Hp → VK → Prop := fun vs H Q => ∃ (F : Hp) (a : Addr) (ys : List V) (rs : List (List Int)), Same F H ∧ vs = [V.ref a] ∧ SqL K H a ys ∧ AtL K F (rs.map tupI) ys ∧ (rs.length ≤ 1 ∨ ∀ r ∈ rs, r ≠ []) ∧
  ∀ (zs : List V) (p : Addr), AtL K F ((sortL rs).map tupI) zs → H p = none → Q (.ref p) (upd H p (.lst zs))
theorem at_perm {F : Hp} {k : V → List Int} : ∀ {zs : List V}, (∀ z ∈ zs, At K F (tupI (k z)) z) → AtL K F ((zs.map k).map tupI) zs
  | [], _ => rfl
  | z :: zs, h => ⟨z, zs, rfl, h z List.mem_cons_self, at_perm fun y m => h y (List.mem_cons_of_mem _ m)⟩
theorem sqT_inj {pins : List (Addr × Obj)} {σ : L2.St} {H : Hp} {s : Shared} (I : Inv X pins σ H s) {t : Addr} {as bs : List Int} (h : SqT X.K H t (as.map V.int)) (h' : SqT X.K H t (bs.map V.int)) : as = bs := vints_inj (I.tuple_inj h h')
theorem cr_sortedR2 : CallR X (.builtin "sorted") (rSortedR2 X.K) := by
  intro pins s σ H vs us Q I r h
  obtain ⟨F, a, ys, rs, sm, rfl, hs, ha, hz, q⟩ := h
  have hk : ∀ y ∈ ys, ∃ t, y = V.ref t ∧ F t = some (.tup ((keyV F y).map V.int)) := fun y m => by
    obtain ⟨t, r', e, _, hr⟩ := at_rows ha y m
    exact keyV_spec ⟨t, r', e, hr⟩
  have hmap : ∀ {rs : List (List Int)} {ys : List V}, AtL X.K F (rs.map tupI) ys → ys.map (keyV F) = rs := by
    intro rs
    induction rs with
    | nil => intro ys h; cases h; rfl
    | cons r rs ih =>
      intro ys h
      obtain ⟨v, t, rfl, ⟨b, us, rfl, h1, h2⟩, h3⟩ := h
      rw [AtL.ints_inv h2] at h1
      obtain ⟨t', e, h4⟩ := keyV_spec (F := F) (v := V.ref b) ⟨b, r, rfl, h1⟩
      cases e
      have hv : (keyV F (V.ref b)).map V.int = r.map V.int := by rw [h4] at h1; injection h1 with h1; injection h1
      rw [List.map_cons, vints_inj hv, ih h3]
  have hkr := hmap ha
  refine cr_sortedR pins s σ H _ us Q I r ⟨a, ys, keyV F, rfl, hs, fun y m => ?_, ?_, fun zs p hp hpw hn => ?_⟩
  · obtain ⟨t, e, ht⟩ := hk y m
    exact ⟨t, e, SqT.of (sm _ _ ht)⟩
  · rcases hz with z | z
    · left
      have := AtL.len ha
      rw [List.length_map] at this
      omega
    · right
      intro y m
      refine z _ ?_
      rw [← hkr]
      exact List.mem_map.mpr ⟨y, m, rfl⟩
  · refine q zs p ?_ hn
    have e : sortL rs = zs.map (keyV F) := by
      symm
      refine sortL_uniq ?_ (List.pairwise_map.mpr hpw)
      rw [← hkr]
      exact hp.map _
    rw [e]
    refine at_perm fun z m => ?_
    obtain ⟨t, e, ht⟩ := hk z (hp.mem_iff.mp m)
    exact ⟨t, _, e, ht, AtL.ints _⟩
theorem satCL_sortR : SatCL K (rSortedR2 K) sortRD := by
  intro W F σ s p H vs ds dz Q r av h q
  unfold sortRD at h
  split at h
  · rename_i xs
    cases e1 : rowsI? xs with
    | none => rw [e1] at h; cases h
    | some rs =>
      rw [e1] at h
      change (if (decide (rs.length ≤ 1) || rs.all fun r => !r.isEmpty) = true then some ((sortL rs).map tupI) else none) = _ at h
      split at h
      · rename_i hc
        cases h
        obtain ⟨v, t, rfl, ⟨a, us, rfl, h1, h2⟩, rfl⟩ := av
        rw [rowsI?_eq e1] at h2
        refine ⟨F, a, us, rs, r.exF, rfl, SqL.of (r.exF _ _ h1), h2, ?_, fun zs p hz hn => q p zs F _ (Ext.heap grow_upd) (r.garb hn) hn (r.exF.free hn) upd_same hz⟩
        rcases Bool.or_eq_true _ _ |>.mp hc with c | c
        · exact .inl (of_decide_eq_true c)
        · refine .inr fun x m => ?_
          have := List.all_eq_true.mp c x m
          cases x with
          | nil => cases this
          | cons _ _ => exact fun z => (by cases z)
      · cases h
  · cases h
theorem satCL_sortI : SatCL K (rSortedI K) sortID := by
  intro W F σ s p H vs ds dz Q r av h q
  unfold sortID at h
  split at h
  · rename_i xs
    cases e1 : ints? xs with
    | none => rw [e1] at h; cases h
    | some ns =>
      rw [e1] at h
      cases h
      obtain ⟨v, t, rfl, ⟨a, us, rfl, h1, h2⟩, rfl⟩ := av
      rw [ints?_eq e1] at h2
      rw [AtL.ints_inv h2] at h1
      refine ⟨a, ns, rfl, SqL.of (r.exF _ _ h1), fun ns' p hp hs hn => ?_⟩
      rw [sortI_uniq hp hs]
      exact q p _ F _ (Ext.heap grow_upd) (r.garb hn) hn (r.exF.free hn) upd_same (AtL.ints _)
  · cases h
  · cases h
end
end DL

namespace DL
open PySem PySem.Spec PyProof.Rows L2

theorem tuple_mulSame (l : Addr) (items : Array Value) (n : Nat) (dd : Option Addr) (sl : Array (Option Value)) (x : Int) (u : Tok) (c0 : (decide (x < -(2 ^ 63)) || decide (x ≥ 2 ^ 63)) = false) (c1 : (items.isEmpty || x == 1) = true) :
    Meets (Builtin.«tuple.__mul__» ⟨[.ref l, .int x u], []⟩) (fun _ R s => s.heap.get? l = some { cls := .type "tuple", dict := dd, data := .seq items n, slots := sl } ∧ R (.ok (.ret (Value.ref l))) s) :=
  .of_wp fun prog w A R s h => by
    obtain ⟨hp, g, d, tk, os⟩ := s
    obtain ⟨hl, h⟩ := h
    have f1 := AutoSeq1.idx_int
    wp_walk using wpAny_loadPart' hl
    repeat (first
      | (refine wpAny_ite_false (decide_eq_false (by rw [c0]; exact Bool.false_ne_true)) ?_; wp_walk using wpAny_loadPart' hl)
      | (refine wpAny_ite_true (decide_eq_true (by rw [c1])) ?_; wp_walk using wpAny_loadPart' hl))
    exact ⟨_, rfl, h⟩
theorem tuple_mulNone (l : Addr) (items : Array Value) (n : Nat) (dd : Option Addr) (sl : Array (Option Value)) (x : Int) (u : Tok) (c0 : (decide (x < -(2 ^ 63)) || decide (x ≥ 2 ^ 63)) = false) (c1 : (items.isEmpty || x == 1) = false) (c2 : (decide (x ≤ 0) || items.isEmpty) = true) :
    Meets (Builtin.«tuple.__mul__» ⟨[.ref l, .int x u], []⟩) (fun _ R s => s.heap.get? l = some { cls := .type "tuple", dict := dd, data := .seq items n, slots := sl } ∧
      R (.ok (.ret (Value.ref s.heap.objs.size))) { s with heap := s.heap.push { cls := Value.type "tuple", data := Data.seq #[] }, toks := s.toks }) :=
  .of_wp fun prog w A R s h => by
    obtain ⟨hp, g, d, tk, os⟩ := s
    obtain ⟨hl, h⟩ := h
    have f1 := AutoSeq1.idx_int
    wp_walk using wpAny_loadPart' hl
    repeat (first
      | (refine wpAny_ite_false (decide_eq_false (by rw [c0]; exact Bool.false_ne_true)) ?_; wp_walk using wpAny_loadPart' hl)
      | (refine wpAny_ite_false (decide_eq_false (by rw [c1]; exact Bool.false_ne_true)) ?_; wp_walk using wpAny_loadPart' hl)
      | (refine wpAny_ite_true (decide_eq_true (by rw [c2])) ?_; wp_walk using wpAny_loadPart' hl))
    exact ⟨_, rfl, h⟩
def rRepA (K : PySem.W.Frag) : R2 := fun x y H Q => ∃ l k xs, x = .ref l ∧ y = .int k ∧ SqT K H l xs ∧ -(2 ^ 63) ≤ k ∧ k ≤ 1000 ∧ xs.length ≤ 1000 ∧ (xs = [] ∨ k = 1 → Q (.ref l) H) ∧ (xs ≠ [] → k ≤ 0 → ∀ p, H p = none → Q (.ref p) (upd H p (.tup []))) ∧
  (xs ≠ [] → 2 ≤ k → ∀ p, H p = none → Q (.ref p) (upd H p (.tup (List.replicate k.toNat xs).flatten)))
section
variable {X : Cx} {K : PySem.W.Frag}
theorem op_repA : OpR X (binaryOp .Mult) (rRepA X.K) := by
  intro pins s σ H x y v u Q I rx ry h
  obtain ⟨l, k, xs, rfl, rfl, hT, h1, h2, hz, q1, q2, q3⟩ := h
  by_cases hx : xs ≠ [] ∧ 2 ≤ k
  · exact op_repT pins s σ H _ _ v u Q I rx ry ⟨l, k, xs, rfl, rfl, hT, hx.1, hx.2, h2, hz, q3 hx.1 hx.2⟩
  · cases rx
    obtain ⟨t, rfl⟩ := ry
    obtain ⟨its, r, ⟨⟨cls, dd, data, sl⟩, ho, hc, n, hd⟩, hs⟩ := I.tuple hT
    simp only at hc hd
    subst hc hd
    have hle : its.length = xs.length := r.length.symm
    have c0 : (decide (k < -(2 ^ 63)) || decide (k ≥ 2 ^ 63)) = false := by
      rw [decide_eq_false (by omega), decide_eq_false (by omega)] <;> rfl
    by_cases hs1 : xs = [] ∨ k = 1
    · have c1 : (its.toArray.isEmpty || k == 1) = true := by
        rcases hs1 with e | e
        · subst e
          cases its with
          | nil => rfl
          | cons _ _ => simp at hle
        · subst e; simp
      refine wpAny_binaryOp_repeat_ref (T := "tuple") (U := "int") (by decide) ⟨_, ho, rfl⟩ (fun s' => typeIs_int s' k t) noFill_tuple_mul F.fills_int_mul F.slot_int_rmul repeat_tuple F.slot_int_index.lookup
        (call_meets F.slot_int_rmul (typeIs_int s k t) F.entry_int_rmul (F.args_int_rmul_2 _ _) (int_rmul_tuple k t l its.toArray n dd sl)
          ⟨ho, rfl, ⟨_, ho, rfl⟩, call_meets F.slot_tuple_mul ⟨_, ho, rfl⟩ F.entry_tuple_mul (F.args_tuple_mul_2 _ _) (tuple_mulSame l its.toArray n dd sl k t c0 c1) ⟨ho, ?_⟩⟩)
      exact ⟨.ref l, H, I, rfl, q1 hs1⟩
    · have hne : xs ≠ [] := fun e => hs1 (.inl e)
      have hk : k ≤ 0 := by
        have : ¬ 2 ≤ k := fun e => hx ⟨hne, e⟩
        have : k ≠ 1 := fun e => hs1 (.inr e)
        omega
      have c1 : (its.toArray.isEmpty || k == 1) = false := by
        cases its with
        | nil =>
          exfalso
          exact hne (List.eq_nil_of_length_eq_zero hle.symm)
        | cons a b =>
          simp
          omega
      have c2 : (decide (k ≤ 0) || its.toArray.isEmpty) = true := by rw [decide_eq_true hk]; rfl
      refine wpAny_binaryOp_repeat_ref (T := "tuple") (U := "int") (by decide) ⟨_, ho, rfl⟩ (fun s' => typeIs_int s' k t) noFill_tuple_mul F.fills_int_mul F.slot_int_rmul repeat_tuple F.slot_int_index.lookup
        (call_meets F.slot_int_rmul (typeIs_int s k t) F.entry_int_rmul (F.args_int_rmul_2 _ _) (int_rmul_tuple k t l its.toArray n dd sl)
          ⟨ho, rfl, ⟨_, ho, rfl⟩, call_meets F.slot_tuple_mul ⟨_, ho, rfl⟩ F.entry_tuple_mul (F.args_tuple_mul_2 _ _) (tuple_mulNone l its.toArray n dd sl k t c0 c1 c2) ⟨ho, ?_⟩⟩)
      refine ⟨.ref s.heap.objs.size, _, I.laid (t' := s.toks) (o := .tup []) (fun b ob q => Heap.get?_push_of_some _ q) (Nat.le_refl _) ?_, rfl, q2 hne hk _ (I.hok.fresh (Nat.le_refl _))⟩
      exact ⟨Nat.zero_le _, [], .nil, IsTup.new _ _⟩
/-- * of ints, of a tuple and an int -/
def mulD : D → D → Option D
  | .int a, .int b => if mulOk a b = true then some (.int (a * b)) else none
  | .tup xs, .int k => if xs.length ≤ 1000 ∧ -(2 ^ 63) ≤ k ∧ k ≤ 1000 then some (.tup (List.replicate k.toNat xs).flatten) else none
  | _, _ => none
def rMulA (K : PySem.W.Frag) : R2 := fun x y H Q => rMulD x y H Q ∨ rRepA K x y H Q
theorem op_mulA : OpR X (binaryOp .Mult) (rMulA X.K) := OpR.or op_mulD op_repA
theorem AtL.rep {F : Hp} {ds : List D} {vs : List V} (h : AtL K F ds vs) : ∀ n : Nat, AtL K F (List.replicate n ds).flatten (List.replicate n vs).flatten
  | 0 => rfl
  | n + 1 => by
    rw [List.replicate_succ, List.replicate_succ, List.flatten_cons, List.flatten_cons]
    exact AtL.app h (AtL.rep h n)
theorem rep_one {α : Type} (xs : List α) : (List.replicate 1 xs).flatten = xs := by simp
theorem rep_nil {α : Type} (n : Nat) : (List.replicate n ([] : List α)).flatten = [] := by
  induction n with
  | zero => rfl
  | succ n ih => rw [List.replicate_succ, List.flatten_cons, ih]; rfl
theorem sat_mulA : SatR2 K (rMulA K) mulD := by
  intro W F σ s p H x y dx dy dz Q r ax ay h q
  unfold mulD at h
  split at h
  · rename_i a b
    refine .inl (sat_mul W F σ s p H x y (.int a) (.int b) dz Q r ax ay ?_ q)
    exact h
  · rename_i ds k
    split at h
    · rename_i hc
      cases h
      cases ay
      obtain ⟨a, vs, rfl, h1, h2⟩ := ax
      have hl := AtL.len h2
      refine .inr ⟨a, k, vs, rfl, rfl, SqT.of (r.exF _ _ h1), hc.2.1, hc.2.2, by omega, fun e => ?_, fun e1 e2 t ht => ?_, fun e1 e2 t ht => ?_⟩
      · refine q _ F H (Ext.refl _ _) r ⟨a, vs, rfl, h1, ?_⟩
        rcases e with e | e
        · subst e
          have : ds = [] := List.eq_nil_of_length_eq_zero (by simpa using hl)
          subst this
          rw [rep_nil]
          exact rfl
        · subst e
          show AtL K F (List.replicate 1 ds).flatten vs
          rw [rep_one]
          exact h2
      · have e0 : k.toNat = 0 := by omega
        rw [e0] at q
        have x2 := Ext.new (o := .tup []) r.exF ht
        exact q _ _ _ x2 (r.new ht) ⟨t, [], rfl, upd_same, rfl⟩
      · have x2 := Ext.new (o := .tup (List.replicate k.toNat vs).flatten) r.exF ht
        exact q _ _ _ x2 (r.new ht) ⟨t, _, rfl, upd_same, AtL.rep (AtL.mono x2.ex _ _ h2) _⟩
    · cases h
  · cases h

def fCat (fa fb : FE) : FA := fun s p => (fa s p).bind fun x => (fb s x.2).bind fun y => match x.1, y.1 with
  | .lst xs, .lst ys => if xs.length + ys.length ≤ 1000000 then some (xs ++ ys, y.2) else none
  | _, _ => none
theorem ld_cat {a b : Expr} {fa fb : FE} {pos : Pos} (ha : ED X a fa) (hb : ED X b fb) : LD X (.BinOp a .Add b pos) (fCat fa fb) := by
  obtain ⟨ta, pa, sa⟩ := ha
  obtain ⟨tb, pb, sb⟩ := hb
  refine ⟨_, pe_op op_cat pa pb, fun W F σ s p H Q d p' r0 h q => ?_⟩
  unfold fCat at h
  cases e1 : fa s p with
  | none => rw [e1] at h; cases h
  | some x =>
    rw [e1] at h
    change (fb s x.2).bind _ = _ at h
    cases e2 : fb s x.2 with
    | none => rw [e2] at h; cases h
    | some y =>
      rw [e2] at h
      change (match x.1, y.1 with | .lst xs, .lst ys => if xs.length + ys.length ≤ 1000000 then some (xs ++ ys, y.2) else none | _, _ => none) = _ at h
      refine sa W F σ s p H _ x.1 x.2 r0 e1 fun v F1 H1 x1 r1 a1 => ?_
      refine sb W F1 σ s x.2 H1 _ y.1 y.2 r1 e2 fun w F2 H2 x2 r2 a2 => ?_
      split at h
      · rename_i xs ys ex ey
        split at h
        · rename_i hl
          cases h
          rw [ex] at a1
          rw [ey] at a2
          obtain ⟨l1, vs, rfl, h1, h2⟩ := At.mono x2.ex _ _ a1
          obtain ⟨l2, us, rfl, h3, h4⟩ := a2
          have k1 := AtL.len h2
          have k2 := AtL.len h4
          refine ⟨l1, l2, vs, us, rfl, rfl, r2.exF _ _ h1, r2.exF _ _ h3, line6 (by omega), fun t ht => ?_⟩
          refine q t _ F2 _ ((x1.trans x2).trans (Ext.heap grow_upd)) (r2.garb ht) ?_ (r2.exF.free ht) upd_same (AtL.app h2 h4)
          cases h9 : H t with
          | none => rfl
          | some o => exact absurd ht ((x1.trans x2).grow t (ne_none_of h9))
        · cases h
      · cases h
def fRepL (fa fb : FE) : FA := fun s p => (fa s p).bind fun x => (fb s x.2).bind fun y => match x.1, y.1 with
  | .lst xs, .int k => if xs.length * k.toNat ≤ 1000000 ∧ -(2 ^ 63) ≤ k ∧ k < 2 ^ 63 then some ((List.replicate k.toNat xs).flatten, y.2) else none
  | _, _ => none
theorem ld_rep {a b : Expr} {fa fb : FE} {pos : Pos} (ha : ED X a fa) (hb : ED X b fb) : LD X (.BinOp a .Mult b pos) (fRepL fa fb) := by
  obtain ⟨ta, pa, sa⟩ := ha
  obtain ⟨tb, pb, sb⟩ := hb
  refine ⟨_, pe_op op_rep pa pb, fun W F σ s p H Q d p' r0 h q => ?_⟩
  unfold fRepL at h
  cases e1 : fa s p with
  | none => rw [e1] at h; cases h
  | some x =>
    rw [e1] at h
    change (fb s x.2).bind _ = _ at h
    cases e2 : fb s x.2 with
    | none => rw [e2] at h; cases h
    | some y =>
      rw [e2] at h
      change (match x.1, y.1 with | .lst xs, .int k => if xs.length * k.toNat ≤ 1000000 ∧ -(2 ^ 63) ≤ k ∧ k < 2 ^ 63 then some ((List.replicate k.toNat xs).flatten, y.2) else none | _, _ => none) = _ at h
      refine sa W F σ s p H _ x.1 x.2 r0 e1 fun v F1 H1 x1 r1 a1 => ?_
      refine sb W F1 σ s x.2 H1 _ y.1 y.2 r1 e2 fun w F2 H2 x2 r2 a2 => ?_
      split at h
      · rename_i xs k ex ey
        split at h
        · rename_i hl
          cases h
          rw [ex] at a1
          rw [ey] at a2
          cases a2
          obtain ⟨l1, vs, rfl, h1, h2⟩ := At.mono x2.ex _ _ a1
          have k1 := AtL.len h2
          refine ⟨l1, k, vs, rfl, rfl, r2.exF _ _ h1, hl.2.1, hl.2.2, line6 (by rw [← k1]; exact hl.1), fun t ht => ?_⟩
          refine q t _ F2 _ ((x1.trans x2).trans (Ext.heap grow_upd)) (r2.garb ht) ?_ (r2.exF.free ht) upd_same (AtL.rep h2 _)
          cases h9 : H t with
          | none => rfl
          | some o => exact absurd ht ((x1.trans x2).grow t (ne_none_of h9))
        · cases h
      · cases h
end
end DL

namespace DL
open PySem PySem.Spec PyProof.Rows L2

section
variable {X : Cx} {K : PySem.W.Frag}
theorem new_none {F H F1 H1 : Hp} {t : Addr} (x : Ext F H F1 H1) (ht : H1 t = none) : H t = none := by
  cases h9 : H t with
  | none => rfl
  | some o => exact absurd ht (x.grow t (ne_none_of h9))
abbrev FO := List Sl → PL → Option (Option Int × PL)
def SatO (K : PySem.W.Frag) (to : TO) (f : FO) : Prop := ∀ W F σ s p H (Q : Option Int → Hp → Prop) o p', R K W F σ s p H → f s p = some (o, p') →
  (∀ F' H', Ext F H F' H' → R K W F' σ s p' H' → Q o H') → to σ H Q
def OD (X : Cx) (e : Option Expr) (f : FO) : Prop := ∃ to, PO X e to ∧ SatO X.K to f
def fNoPart : FO := fun _ p => some (none, p)
def fPart (fe : FE) : FO := fun s p => (fe s p).bind fun x => match x.1 with
  | .int i => some (some i, x.2)
  | _ => none
theorem od_none : OD X none fNoPart := ⟨_, po_none, fun W F σ s p H Q o p' r h q => by cases h; exact q F H (Ext.refl _ _) r⟩
theorem od_some {e : Expr} {fe : FE} (h : ED X e fe) : OD X (some e) (fPart fe) := by
  obtain ⟨te, pe, se⟩ := h
  refine ⟨_, po_some pe, fun W F σ s p H Q o p' r e1 q => ?_⟩
  unfold fPart at e1
  cases e2 : fe s p with
  | none => rw [e2] at e1; cases e1
  | some x =>
    rw [e2] at e1
    change (match x.1 with | .int i => some (some i, x.2) | _ => none) = _ at e1
    refine se W F σ s p H _ x.1 x.2 r e2 fun v F1 H1 x1 r1 a1 => ?_
    split at e1
    · rename_i i hi
      cases e1
      rw [hi] at a1
      exact ⟨i, a1, q F1 H1 x1 r1⟩
    · cases e1
def cutD (xs : List D) (lo hi : Option Int) : List D := (xs.drop (HT.sIx xs.length 0 lo)).take (HT.sIx xs.length xs.length hi - HT.sIx xs.length 0 lo)
theorem AtL.cut {F : Hp} {ds : List D} {vs : List V} (h : AtL K F ds vs) (lo hi : Option Int) : AtL K F (cutD ds lo hi) (cutV vs lo hi) := by
  unfold cutD cutV
  rw [AtL.len h]
  exact AtL.take _ (AtL.drop _ h)
def fSlL (fe : FE) (fl fh : FO) : FA := fun s p => (fe s p).bind fun x => (fl s x.2).bind fun l => (fh s l.2).bind fun h => match x.1 with
  | .lst xs => some (cutD xs l.1 h.1, h.2)
  | .ro xs => some (cutD xs l.1 h.1, h.2)
  | _ => none
def fSlT (fe : FE) (fl fh : FO) : FE := fun s p => (fe s p).bind fun x => (fl s x.2).bind fun l => (fh s l.2).bind fun h => match x.1 with
  | .tup xs => some (.tup (cutD xs l.1 h.1), h.2)
  | _ => none
theorem ld_sl {e : Expr} {lo hi : Option Expr} {fe : FE} {fl fh : FO} {p2 pos : Pos} (he : ED X e fe) (hl : OD X lo fl) (hh : OD X hi fh) : LD X (.Subscript e (.Slice lo hi none p2) pos) (fSlL fe fl fh) := by
  obtain ⟨te, pe, se⟩ := he
  obtain ⟨tl, pl, sl⟩ := hl
  obtain ⟨th, ph, sh⟩ := hh
  refine ⟨_, pe_slice sl_list pe pl ph, fun W F σ s p H Q d p' r e1 q => ?_⟩
  unfold fSlL at e1
  cases e2 : fe s p with
  | none => rw [e2] at e1; cases e1
  | some x =>
    rw [e2] at e1
    change (fl s x.2).bind _ = _ at e1
    cases e3 : fl s x.2 with
    | none => rw [e3] at e1; cases e1
    | some l =>
      rw [e3] at e1
      change (fh s l.2).bind _ = _ at e1
      cases e4 : fh s l.2 with
      | none => rw [e4] at e1; cases e1
      | some h =>
        rw [e4] at e1
        change (match x.1 with | .lst xs => some (cutD xs l.1 h.1, h.2) | .ro xs => some (cutD xs l.1 h.1, h.2) | _ => none) = _ at e1
        refine se W F σ s p H _ x.1 x.2 r e2 fun v F1 H1 x1 r1 a1 => sl W F1 σ s x.2 H1 _ l.1 l.2 r1 e3 fun F2 H2 x2 r2 => sh W F2 σ s l.2 H2 _ h.1 h.2 r2 e4 fun F3 H3 x3 r3 => ?_
        have xx := (x1.trans x2).trans x3
        have a3 := At.mono (x2.ex.trans x3.ex) _ _ a1
        split at e1
        · rename_i xs ex
          cases e1
          rw [ex] at a3
          obtain ⟨a, vs, rfl, h1, h2⟩ := a3
          exact ⟨a, vs, rfl, SqL.of (r3.exF _ _ h1), fun t ht => q t _ F3 _ (xx.trans (Ext.heap grow_upd)) (r3.garb ht) (new_none xx ht) (r3.exF.free ht) upd_same (AtL.cut h2 _ _)⟩
        · rename_i xs ex
          cases e1
          rw [ex] at a3
          obtain ⟨a, vs, rfl, h1, h2⟩ := a3
          exact ⟨a, vs, rfl, r3.exF.seq h1, fun t ht => q t _ F3 _ (xx.trans (Ext.heap grow_upd)) (r3.garb ht) (new_none xx ht) (r3.exF.free ht) upd_same (AtL.cut h2 _ _)⟩
        · cases e1
theorem cut_whole {xs : List V} {lo hi : Option Int} (h : HT.sIx xs.length 0 lo = 0 ∧ HT.sIx xs.length xs.length hi = xs.length) : cutV xs lo hi = xs := by
  unfold cutV
  rw [h.1, h.2]
  simp
theorem ed_slT {e : Expr} {lo hi : Option Expr} {fe : FE} {fl fh : FO} {p2 pos : Pos} (he : ED X e fe) (hl : OD X lo fl) (hh : OD X hi fh) : ED X (.Subscript e (.Slice lo hi none p2) pos) (fSlT fe fl fh) := by
  obtain ⟨te, pe, se⟩ := he
  obtain ⟨tl, pl, sl⟩ := hl
  obtain ⟨th, ph, sh⟩ := hh
  refine ⟨_, pe_slice sl_tupA pe pl ph, fun W F σ s p H Q d p' r e1 q => ?_⟩
  unfold fSlT at e1
  cases e2 : fe s p with
  | none => rw [e2] at e1; cases e1
  | some x =>
    rw [e2] at e1
    change (fl s x.2).bind _ = _ at e1
    cases e3 : fl s x.2 with
    | none => rw [e3] at e1; cases e1
    | some l =>
      rw [e3] at e1
      change (fh s l.2).bind _ = _ at e1
      cases e4 : fh s l.2 with
      | none => rw [e4] at e1; cases e1
      | some h =>
        rw [e4] at e1
        change (match x.1 with | .tup xs => some (D.tup (cutD xs l.1 h.1), h.2) | _ => none) = _ at e1
        refine se W F σ s p H _ x.1 x.2 r e2 fun v F1 H1 x1 r1 a1 => sl W F1 σ s x.2 H1 _ l.1 l.2 r1 e3 fun F2 H2 x2 r2 => sh W F2 σ s l.2 H2 _ h.1 h.2 r2 e4 fun F3 H3 x3 r3 => ?_
        have xx := (x1.trans x2).trans x3
        have a3 := At.mono (x2.ex.trans x3.ex) _ _ a1
        split at e1
        · rename_i xs ex
          cases e1
          rw [ex] at a3
          obtain ⟨a, vs, rfl, h1, h2⟩ := a3
          have hc := AtL.cut h2 l.1 h.1
          refine ⟨a, vs, rfl, SqT.of (r3.exF _ _ h1), fun hw => q _ F3 H3 xx r3 ⟨a, vs, rfl, h1, ?_⟩, fun hw t ht => ?_⟩
          · rw [cut_whole hw] at hc
            exact hc
          · have x4 := Ext.new (o := .tup (cutV vs l.1 h.1)) r3.exF ht
            exact q _ _ _ (xx.trans x4) (r3.new ht) ⟨t, _, rfl, upd_same, AtL.mono x4.ex _ _ hc⟩
        · cases e1
/-- l[::-1], l a list -/
def fRevL (fe : FE) : FA := fun s p => (fe s p).bind fun x => match x.1 with
  | .lst xs => some (xs.reverse, x.2)
  | _ => none
theorem ld_rev {e : Expr} {fe : FE} {k : Nat} {p1 p2 p3 pos : Pos} (he : ED X e fe) : LD X (.Subscript e (.Slice none none (some (.UnaryOp .USub (.Constant (.int 1) k p1) p2)) p3) pos) (fRevL fe) := by
  obtain ⟨te, pe, se⟩ := he
  refine ⟨_, pe_revL pe, fun W F σ s p H Q d p' r e1 q => ?_⟩
  unfold fRevL at e1
  cases e2 : fe s p with
  | none => rw [e2] at e1; cases e1
  | some x =>
    rw [e2] at e1
    change (match x.1 with | .lst xs => some (xs.reverse, x.2) | _ => none) = _ at e1
    refine se W F σ s p H _ x.1 x.2 r e2 fun v F1 H1 x1 r1 a1 => ?_
    split at e1
    · rename_i xs ex
      cases e1
      rw [ex] at a1
      obtain ⟨a, vs, rfl, h1, h2⟩ := a1
      exact ⟨a, vs, rfl, SqL.of (r1.exF _ _ h1), fun t ht => q t _ F1 _ (x1.trans (Ext.heap grow_upd)) (r1.garb ht) (new_none x1 ht) (r1.exF.free ht) upd_same (AtL.rev h2)⟩
    · cases e1

def rngDn (lo : Int) (n : Nat) : List D := (List.range n).map fun k => D.int (lo + (k : Nat) * (-1))
def rng3 : List D → Option (List D)
  | [.int a, .int b, .int c] => if c = -1 ∧ -1000000000000 ≤ a ∧ a < 1000000000000 ∧ -1000000000000 ≤ b ∧ b < 1000000000000 ∧ (a - b).toNat ≤ 1000000 then some (rngDn a (a - b).toNat) else none
  | _ => none
theorem wlk_rngDn {F : Hp} {lo : Int} {n : Nat} (hn : n ≤ 1000000) : Wlk K (Itc lo (-1) n) F (rngDn lo n) := by
  have hl : (rngDn lo n).length = n := by simp [rngDn]
  refine ⟨by rw [hl]; exact line6 hn, fun i H _ hi => by rw [hl] at hi; exact hi, fun H _ => by rw [hl]; exact Nat.le_refl _, fun i H x H' F1 s1 s2 hi y => ?_⟩
  rw [hl] at hi
  obtain ⟨e, y⟩ := y
  subst e y
  refine ⟨F1, .int (lo + (i : Nat) * (-1)), ?_, Ext.refl _ _, Same.refl _, s2, rfl⟩
  unfold rngDn
  rw [List.getElem?_map, List.getElem?_range hi]
  rfl
theorem id_rng3 {tg a b c : Expr} {fs : FA} {ps pos : Pos} (hg : Gl X "range") (hm : X.mg "range" = none) (ha : AD X [a, b, c] fs)
    (hs : starEach [a, b, c] X.env = (false, eval a X.env) :: starEach [b, c] X.env := by rfl) (hpl : (backTo pos (starEach [b, c] X.env)).any (·.1) = false := by rfl) : ID X tg (.Call (.Name "range" ps) [a, b, c] [] pos) (fCallL rng3 fs) := by
  obtain ⟨ta, pa, sa⟩ := ha
  refine ⟨_, pi_range3 hg hm pa hs hpl, fun W F σ s p H Q ds p' r h q => ?_⟩
  unfold fCallL at h
  cases e1 : fs s p with
  | none => rw [e1] at h; cases h
  | some x =>
    rw [e1] at h
    change (rng3 x.1).map _ = _ at h
    refine sa W F σ s p H _ x.1 x.2 r e1 fun vs F1 H1 x1 r1 a1 => ?_
    unfold rng3 at h
    split at h
    · rename_i i j c hx
      rw [hx] at a1
      obtain ⟨v, t, rfl, rfl, w, t', rfl, rfl, u, t'', rfl, rfl, rfl⟩ := a1
      by_cases hc : c = -1 ∧ -1000000000000 ≤ i ∧ i < 1000000000000 ∧ -1000000000000 ≤ j ∧ j < 1000000000000 ∧ (i - j).toNat ≤ 1000000
      · rw [if_pos hc] at h
        cases h
        obtain ⟨rfl, c1, c2, c3, c4, c5⟩ := hc
        exact ⟨i, j, -1, (i - j).toNat, rfl, RgC.neg (by omega) (by omega) (by omega) (by omega), q _ F1 H1 x1 r1 (wlk_rngDn c5)⟩
      · rw [if_neg hc] at h
        cases h
    · cases h

def xAug (i : Nat) (o : D → D → Option D) (fe : FE) : FS := fun s p => match s[i]? with
  | some (.fz d) => (fe s p).bind fun x => (o d x.1).map fun z => .nx (s.set i (.fz z)) x.2
  | _ => none
theorem sd_aug {i : Nat} {x : Str} {e : Expr} {fe : FE} {op : Operator} {r : R2} {o : D → D → Option D} {pos pos' : Pos} (hN : X.N.Nodup) (hi : X.N[i]? = some x) (hx : Loc X.env.scope x) (he : ED X e fe) (ho : OpR X (inplaceOp op) r) (hr : SatR2 X.K r o)
    (hf : X.fn x = true ∨ X.env.scope.names.lookup x = some .local := by first | exact .inl rfl | exact .inr rfl | assumption) : SD X (.AugAssign (.Name x pos') op e pos) (xAug i o fe) := by
  obtain ⟨te, pe, se⟩ := he
  refine ⟨_, ps_aug (ti := r) hN hi hx pe (fun pins s σ H x y v u Q I r1 r2 h => ho pins s σ H x y v u Q I r1 r2 h) hf, fun W F σ s p H Dn out r0 hl h q => ?_⟩
  unfold xAug at h
  split at h
  · rename_i d hs
    cases e1 : fe s p with
    | none => rw [e1] at h; cases h
    | some y =>
      rw [e1] at h
      change (o d y.1).map _ = _ at h
      cases e2 : o d y.1 with
      | none => rw [e2] at h; cases h
      | some z =>
        rw [e2] at h
        cases h
        obtain ⟨w, w1, w2⟩ := r0.slot i _ hs
        have hil : i < s.length := (List.getElem?_eq_some_iff.mp hs).1
        refine ⟨w, w1, se W F σ s p H _ y.1 y.2 r0 e1 fun v F1 H1 x1 r1 a1 => ?_⟩
        refine hr W F1 σ s y.2 H1 w v d y.1 z _ r1 (At.mono x1.ex _ _ w2) a1 e2 fun u F2 H2 x2 r2 a2 => ?_
        exact q _ F2 H2 (by simp [hl]) ((x1.trans x2).s r0) (r2.store a2 (by omega))
  · cases h
/-- the in-place operators of ints -/
def iaddD : D → D → Option D := i2 fun a b => a + b
theorem sat_i2 (f : Int → Int → Int) : SatR2 K (rI0 fun i j => .int (f i j)) (i2 f) := by
  intro W F σ s p H x y dx dy dz Q r ax ay h q
  unfold i2 at h
  split at h
  · cases h
    cases ax
    cases ay
    exact ⟨_, _, rfl, rfl, q _ F H (Ext.refl _ _) r rfl⟩
  · cases h
theorem iop_mulA : OpR X (inplaceOp .Mult) (rI (fun i j => IntMulOk i j) fun i j => .int (i * j)) := opI fun _ _ _ _ _ _ _ hc q => imul_int q hc
end
end DL

namespace DL
open PySem PySem.Spec PyProof.Rows L2

section
variable {X : Cx} {K : PySem.W.Frag}
theorem iop_mulD : OpR X (inplaceOp .Mult) rMulD := OpR.or iop_mul (opI fun _ _ _ _ _ _ _ hc q => imul_int q hc.ok)
theorem iop_divD : OpR X (inplaceOp .FloorDiv) (rI (fun _ j => j ≠ 0 ∧ j.natAbs.log2 < 9000) fun i j => .int (i.fdiv j)) := opI fun i j _ _ _ _ _ hc q =>
  ifloordiv_int hc.1 q (.inl (PyProof.noPylong_of_log2 hc.2))

/-- a key: a tuple of ints and texts -/
def key1? : D → Option Key
  | .int i => some (.inl i)
  | .str x => some (.inr x)
  | _ => none
def keys? : List D → Option (List Key)
  | [] => some []
  | d :: r => (key1? d).bind fun k => (keys? r).map (k :: ·)
def kT? : D → Option (List Key)
  | .tup xs => keys? xs
  | _ => none
theorem key1?_eq {d : D} {k : Key} (h : key1? d = some k) : d = keyD k := by
  cases d <;> first | (cases h; rfl) | cases h
theorem keys?_eq : ∀ {xs : List D} {ks : List Key}, keys? xs = some ks → xs = ks.map keyD
  | [], ks, h => by cases h; rfl
  | d :: r, ks, h => by
    unfold keys? at h
    cases e1 : key1? d with
    | none => rw [e1] at h; cases h
    | some k =>
      rw [e1] at h
      change (keys? r).map _ = _ at h
      cases e2 : keys? r with
      | none => rw [e2] at h; cases h
      | some m =>
        rw [e2] at h
        cases h
        rw [key1?_eq e1, keys?_eq e2]
        rfl
theorem kT?_eq {d : D} {k : List Key} (h : kT? d = some k) : d = .tup (k.map keyD) := by
  cases d with
  | tup xs => rw [keys?_eq h]
  | _ => cases h
theorem key1?_key (k : Key) : key1? (keyD k) = some k := by cases k <;> rfl
theorem keys?_map : ∀ ks : List Key, keys? (ks.map keyD) = some ks
  | [] => rfl
  | k :: ks => by
    show (key1? (keyD k)).bind _ = _
    rw [key1?_key]
    show (keys? (ks.map keyD)).map _ = _
    rw [keys?_map ks]
    rfl
theorem keyD_at {F : Hp} {k : Key} {v : V} (h : At K F (keyD k) v) : v = kV k := by
  cases k <;> exact h
theorem keysD_at {F : Hp} : ∀ {ks : List Key} {vs : List V}, AtL K F (ks.map keyD) vs → vs = ks.map kV
  | [], _, h => h
  | k :: ks, _, h => by
    obtain ⟨v, r, rfl, h1, h2⟩ := h
    rw [keyD_at h1, keysD_at h2]
    rfl
def valT (kvs : List (D × D)) (k : List Key) : Option D := (kvs.find? fun kv => decide (kT? kv.1 = some k)).map (·.2)
def putT (kvs : List (D × D)) (k : List Key) (d : D) : List (D × D) :=
  if (kvs.any fun kv => decide (kT? kv.1 = some k)) = true then kvs.map (fun kv => if kT? kv.1 = some k then (kv.1, d) else kv) else kvs ++ [(.tup (k.map keyD), d)]
theorem kvT_key {q : List Key} {k : List Key} : decide (kT? (.tup (q.map keyD)) = some k) = decide (q = k) := by
  show decide (keys? (q.map keyD) = some k) = _
  rw [keys?_map]
  simp
theorem KvT.val {F : Hp} {k : List Key} : ∀ {kvs : List (D × D)} {ks : List (List Key × V)}, KvT K F kvs ks → (valT kvs k = none ∧ valV ks k = none) ∨ ∃ d v, valT kvs k = some d ∧ valV ks k = some v ∧ At K F d v
  | [], _, h => by cases h; exact .inl ⟨rfl, rfl⟩
  | (kd, d) :: r, _, h => by
    obtain ⟨q, v, t, rfl, rfl, h1, h2⟩ := h
    by_cases e : q = k
    · subst e
      refine .inr ⟨d, v, ?_, by rw [valV_pos rfl], h1⟩
      unfold valT
      rw [List.find?_cons, kvT_key, decide_eq_true rfl]
      rfl
    · have e2 : valT ((.tup (q.map keyD), d) :: r) k = valT r k := by
        unfold valT
        rw [List.find?_cons, kvT_key, decide_eq_false e]
      rw [e2, valV_neg (p := (q, v)) e]
      exact KvT.val h2
theorem KvT.any {F : Hp} {k : List Key} : ∀ {kvs : List (D × D)} {ks : List (List Key × V)}, KvT K F kvs ks → (kvs.any fun kv => decide (kT? kv.1 = some k)) = (ks.any fun kv => decide (kv.1 = k))
  | [], _, h => by cases h; rfl
  | (kd, d) :: r, _, h => by
    obtain ⟨q, v, t, rfl, rfl, h1, h2⟩ := h
    rw [List.any_cons, List.any_cons, kvT_key, KvT.any h2]
theorem KvT.app {F : Hp} : ∀ {kvs : List (D × D)} {ks : List (List Key × V)} {kvs' : List (D × D)} {ks' : List (List Key × V)}, KvT K F kvs ks → KvT K F kvs' ks' → KvT K F (kvs ++ kvs') (ks ++ ks')
  | [], _, _, _, h, h' => by cases h; exact h'
  | (kd, d) :: r, _, _, _, h, h' => by
    obtain ⟨q, v, t, rfl, rfl, h1, h2⟩ := h
    exact ⟨q, v, t ++ _, rfl, rfl, h1, KvT.app h2 h'⟩
theorem KvT.repl {F : Hp} {k : List Key} {d : D} {v : V} (hd : At K F d v) : ∀ {kvs : List (D × D)} {ks : List (List Key × V)}, KvT K F kvs ks →
    KvT K F (kvs.map fun kv => if kT? kv.1 = some k then (kv.1, d) else kv) (ks.map fun kv => if kv.1 = k then (kv.1, v) else kv)
  | [], _, h => by cases h; rfl
  | (kd, d0) :: r, _, h => by
    obtain ⟨q, v0, t, rfl, rfl, h1, h2⟩ := h
    have ih := KvT.repl (k := k) hd h2
    have hk : (kT? (.tup (q.map keyD)) = some k) ↔ q = k := by
      show keys? (q.map keyD) = some k ↔ _
      rw [keys?_map]; simp
    rw [List.map_cons, List.map_cons]
    by_cases e : q = k
    · rw [if_pos (hk.mpr e), if_pos e]
      exact ⟨q, v, _, rfl, rfl, hd, ih⟩
    · rw [if_neg (fun z => e (hk.mp z)), if_neg e]
      exact ⟨q, v0, _, rfl, rfl, h1, ih⟩
theorem KvT.put {F : Hp} {k : List Key} {d : D} {v : V} {kvs : List (D × D)} {ks : List (List Key × V)} (h : KvT K F kvs ks) (hd : At K F d v) : KvT K F (putT kvs k d) (putK ks k v) := by
  unfold putT putK
  rw [h.any (k := k)]
  split
  · exact h.repl hd
  · exact h.app ⟨k, v, [], rfl, rfl, hd, rfl⟩
theorem KvT.len {F : Hp} : ∀ {kvs : List (D × D)} {ks : List (List Key × V)}, KvT K F kvs ks → kvs.length = ks.length
  | [], _, h => by cases h; rfl
  | (kd, d) :: r, _, h => by
    obtain ⟨q, v, t, rfl, rfl, h1, h2⟩ := h
    simp [KvT.len h2]
/-- k in d, k not in d: d one's own -/
def fDIn (i : Nat) (neg : Bool) (fa : FE) : FT := fun s p => match s[i]? with
  | some (.od 1 kvs) => (fa s p).bind fun x => (kT? x.1).map fun k => (if neg = true then (valT kvs k).isNone else (valT kvs k).isSome, x.2)
  | _ => none
theorem kT_at {F H : Hp} (sm : Same F H) {d : D} {k : List Key} {v : V} (h : At K F d v) (e : kT? d = some k) : ∃ b, v = .ref b ∧ H b = some (.tup (k.map kV)) := by
  rw [kT?_eq e] at h
  obtain ⟨b, vs, rfl, h1, h2⟩ := h
  rw [keysD_at h2] at h1
  exact ⟨b, rfl, sm _ _ h1⟩
theorem td_din {i : Nat} {y : Str} {a : Expr} {fa : FE} {p1 pos : Pos} (hu : X.A.units + 1 < cLine) (ha : ED X a fa) (hN : X.N[i]? = some y := by rfl) (hv : Vis X.env.scope y := by first | exact Or.inl rfl | exact Or.inr (Or.inl rfl) | exact Or.inr (Or.inr rfl)) (hd : (y == ("__debug__" : Str)) = false := by decide) (hcd : (y == ("__classdict__" : Str)) = false := by decide)
    (h1 : behindInMarks .In (.Name y p1) = false := by first | exact nobehind _ (by decide) (by decide) | rfl) : TD X (.Compare a [.In] [.Name y p1] pos) (fDIn i false fa) := by
  obtain ⟨ta, pa, sa⟩ := ha
  refine ⟨_, pt_cmp (pc_din hu pa (pe_var hN hv hd hcd)) h1, fun W F σ s p H Q b p' r h q => ?_⟩
  unfold fDIn at h
  split at h
  · rename_i kvs hs
    cases e1 : fa s p with
    | none => rw [e1] at h; cases h
    | some x =>
      rw [e1] at h
      change (kT? x.1).map _ = _ at h
      cases e2 : kT? x.1 with
      | none => rw [e2] at h; cases h
      | some k =>
        rw [e2] at h
        cases h
        refine sa W F σ s p H _ x.1 x.2 r e1 fun v F1 H1 x1 r1 a1 => ?_
        obtain ⟨a', o, w1, w2, w3, w4, w5, w6⟩ := slok_own rfl (r1.slot i _ hs)
        obtain ⟨c, rfl, hc⟩ := kT_at r1.exF a1 e2
        rcases w6 with ⟨e, _⟩ | ⟨_, ks, rfl, w6⟩
        · cases e
        · refine ⟨.ref a', w1, a', valV ks k, rfl, DGet.t w5 hc, ?_⟩
          refine ⟨_, rfl, ?_⟩
          have := q F1 H1 x1 r1
          rcases KvT.val (k := k) w6 with ⟨z1, z2⟩ | ⟨d, v, z1, z2, _⟩
          · rw [z1] at this; rw [z2]; exact this
          · rw [z1] at this; rw [z2]; exact this
  · cases h
theorem td_dnin {i : Nat} {y : Str} {a : Expr} {fa : FE} {p1 pos : Pos} (hu : X.A.units + 1 < cLine) (ha : ED X a fa) (hN : X.N[i]? = some y := by rfl) (hv : Vis X.env.scope y := by first | exact Or.inl rfl | exact Or.inr (Or.inl rfl) | exact Or.inr (Or.inr rfl)) (hd : (y == ("__debug__" : Str)) = false := by decide) (hcd : (y == ("__classdict__" : Str)) = false := by decide)
    (h1 : behindInMarks .NotIn (.Name y p1) = false := by first | exact nobehind _ (by decide) (by decide) | rfl) : TD X (.Compare a [.NotIn] [.Name y p1] pos) (fDIn i true fa) := by
  obtain ⟨ta, pa, sa⟩ := ha
  refine ⟨_, pt_cmp (pc_dnotin hu pa (pe_var hN hv hd hcd)) h1, fun W F σ s p H Q b p' r h q => ?_⟩
  unfold fDIn at h
  split at h
  · rename_i kvs hs
    cases e1 : fa s p with
    | none => rw [e1] at h; cases h
    | some x =>
      rw [e1] at h
      change (kT? x.1).map _ = _ at h
      cases e2 : kT? x.1 with
      | none => rw [e2] at h; cases h
      | some k =>
        rw [e2] at h
        cases h
        refine sa W F σ s p H _ x.1 x.2 r e1 fun v F1 H1 x1 r1 a1 => ?_
        obtain ⟨a', o, w1, w2, w3, w4, w5, w6⟩ := slok_own rfl (r1.slot i _ hs)
        obtain ⟨c, rfl, hc⟩ := kT_at r1.exF a1 e2
        rcases w6 with ⟨e, _⟩ | ⟨_, ks, rfl, w6⟩
        · cases e
        · refine ⟨.ref a', w1, a', valV ks k, rfl, DGet.t w5 hc, ?_⟩
          refine ⟨_, rfl, ?_⟩
          have := q F1 H1 x1 r1
          rcases KvT.val (k := k) w6 with ⟨z1, z2⟩ | ⟨d, v, z1, z2, _⟩
          · rw [z1] at this; rw [z2]; exact this
          · rw [z1] at this; rw [z2]; exact this
  · cases h
/-- d[k] = v, d one's own -/
def xDPut (i : Nat) (fk fv : FE) : FS := fun s p => match s[i]? with
  | some (.od 1 kvs) => (fv s p).bind fun x => (fk s x.2).bind fun y => (kT? y.1).bind fun k => if kvs.length < 1000000 then some (.nx (s.set i (.od 1 (putT kvs k x.1))) y.2) else none
  | _ => none
theorem sd_dput {i : Nat} {y : Str} {k value : Expr} {fk fv : FE} {p1 p2 pos : Pos} (hu : X.A.units + 1 < cLine) (hk : ED X k fk) (hv : ED X value fv) (hN : X.N[i]? = some y := by rfl) (hvs : Vis X.env.scope y := by first | exact Or.inl rfl | exact Or.inr (Or.inl rfl) | exact Or.inr (Or.inr rfl)) (hd : (y == ("__debug__" : Str)) = false := by decide) (hcd : (y == ("__classdict__" : Str)) = false := by decide)
    (hs : swapsWith value (some (.Subscript (.Name y p1) k p2)) pos.line X.env = pure false := by rfl) : SD X (.Assign [.Subscript (.Name y p1) k p2] value pos) (xDPut i fk fv) := by
  obtain ⟨tk, pk, sk⟩ := hk
  obtain ⟨tv, pv, sv⟩ := hv
  refine ⟨_, ps_dput hu (pe_var hN hvs hd hcd) pk pv hs, fun W F σ s p H Dn o r hl h q => ?_⟩
  unfold xDPut at h
  split at h
  · rename_i kvs hsl
    cases e1 : fv s p with
    | none => rw [e1] at h; cases h
    | some x =>
      rw [e1] at h
      change (fk s x.2).bind _ = _ at h
      cases e2 : fk s x.2 with
      | none => rw [e2] at h; cases h
      | some z =>
        rw [e2] at h
        change (kT? z.1).bind _ = _ at h
        cases e3 : kT? z.1 with
        | none => rw [e3] at h; cases h
        | some k =>
          rw [e3] at h
          change (if kvs.length < 1000000 then some (Out.nx (s.set i (.od 1 (putT kvs k x.1))) z.2) else none) = some o at h
          split at h
          · rename_i hlt
            cases h
            refine sv W F σ s p H _ x.1 x.2 r e1 fun v F1 H1 x1 r1 a1 => ?_
            obtain ⟨a0, o0, u1, _, _, _, u5, _⟩ := slok_own rfl (r1.slot i _ hsl)
            refine ⟨.ref a0, u1, ?_⟩
            refine sk W F1 σ s x.2 H1 _ z.1 z.2 r1 e2 fun w F2 H2 x2 r2 a2 => ?_
            obtain ⟨a', o', w1, w2, w3, w4, w5, w6⟩ := slok_own rfl (r2.slot i _ hsl)
            have ea : a' = a0 := by rw [u1] at w1; cases w1; rfl
            subst ea
            obtain ⟨c, rfl, hc⟩ := kT_at r2.exF a2 e3
            rcases w6 with ⟨e, _⟩ | ⟨_, ks, rfl, w6⟩
            · cases e
            · refine ⟨a', _, rfl, DPut.t w5 hc (by rw [← w6.len]; exact lt6 hlt), ?_⟩
              refine q σ F2 _ (by simp [hl]) (((x1.trans x2).trans (Ext.heap grow_upd)).s r) (r2.ownSet hsl rfl u1 (.inr ⟨rfl, _, rfl, KvT.put w6 (At.mono x2.ex _ _ a1)⟩))
          · cases h
  · cases h
/-- {k: v}, k a tuple -/
def tDisp1T (tk tv : TE) : TE := fun σ H Q => ∀ p, H p = none → tPairs [(tk, tv)] σ (upd H p (.dT [])) fun ps H2 => H2 p = some (.dT []) ∧ ∃ b ks y, ps = [(.ref b, y)] ∧ H2 b = some (.tup (ks.map kV)) ∧ Q (.ref p) (upd H2 p (.dT [(ks, y)]))
theorem pe_disp1T {pos : Pos} {k v : Expr} {tk tv : TE} (hu : X.A.units < cLine) (hk : PE X k tk) (hv : PE X v tv) : PE X (.Dict [some k] [v] pos) (tDisp1T tk tv) := by
  refine ⟨fun pins s σ H Q I q => ?_⟩
  have hn := I.hok.fresh (Nat.le_refl s.heap.objs.size)
  have I1 := I.laid (a := s.heap.objs.size) (o := .dT []) (h' := s.heap.push { cls := .type "dict", data := .dict #[] }) (t' := s.toks) (fun _ _ q => Heap.get?_push_of_some _ q) (Nat.le_refl _) (dt_empty s.heap I.big)
  rw [arm_eval_Dict, zip_pairTrees [some k] [v] X.env pos rfl rfl, dictDisplay_pairs (pairTrees [some k] [v] X.env pos) (by exact fun z => by cases z) (by show 1 < 17; decide)]
  refine wpAny_bind (wpAny_standAt (wpAny_bind (wpAny_subDictH (knd := tupleKind (mixKind X.prog X.w)) (Q := fun d s' => wpAny (model X.prog X.w) X.A (pure (Value.ref d)) (EP X pins σ Q) X.xe s') ?_ (by show 1 ≤ 15; decide) ?_)))
  · exact hu
  refine thn ((pps_cons hk hv pps_nil).run pins _ σ _ _ I1 (q _ hn)) fun ws s2 ⟨ps, H2, I2, rel, e, b, ks, y, ep, hb, q2⟩ => ?_
  subst ep
  cases rel with
  | @cons p w ps' ws' hp ht =>
    cases ht
    obtain ⟨w1, w2⟩ := w
    obtain ⟨hp1, hp2⟩ := hp
    cases hp1
    obtain ⟨z, hd, xs0, r0, dd⟩ := dt_of I2.hok e
    cases r0
    refine ⟨[(ks, b, w2)], ⟨rfl, rfl, key_of I2.hok hb, trivial⟩, dd, fun h' tk' dd' hs => wpAny_pure ?_⟩
    obtain ⟨q3, es, ep, hq, g2, g3, g4, _, g5⟩ := dd'
    refine ⟨.ref s.heap.objs.size, _, d_write (ob := .dT [(ks, y)]) I2 (by rw [e]; exact True.intro) hs ⟨q3, hq⟩ ⟨by show 1 ≤ sizeLine; decide, hd, [(ks, b, w2)], .cons ⟨rfl, ?_, hp2⟩ .nil, q3, es, ep, hq, g2, g3, g4, g5⟩, rfl, q2⟩
    rw [upd_ne (ne_of hb e (fun z => nomatch z))]
    exact hb
/-- more that stays -/
theorem R.addB {W : Wd} {F H : Hp} {σ : L2.St} {s : List Sl} {p : PL} {t : Addr} {o : HO} (r : R K W F σ s p H) (ht : H t = none) : R K { W with B := upd W.B t o } F σ s p (upd H t o) := by
  have r0 : R K W F σ s p (upd H t o) := r.garb ht
  refine ⟨upd_same2 r.exB ht, r0.exF, fun i x hx => ?_, r0.dist, fun hu => ?_, r0.len⟩
  · have q := r0.slot i x hx
    have q' := r.slot i x hx
    cases x with
    | no => trivial
    | fz d => exact q
    | pl => exact q
    | ol xs =>
      obtain ⟨a, ob, w1, w2, w3, w4, w5, w6⟩ := q
      obtain ⟨a', ob', u1, _, _, _, u5, _⟩ := q'
      have ea : a' = a := by rw [w1] at u1; cases u1; rfl
      subst ea
      exact ⟨a', ob, w1, w2, by show upd W.B t o a' = none; rw [upd_ne (fun z => by rw [z, ht] at u5; cases u5)]; exact w3, w4, w5, w6⟩
    | od k xs =>
      obtain ⟨a, ob, w1, w2, w3, w4, w5, w6⟩ := q
      obtain ⟨a', ob', u1, _, _, _, u5, _⟩ := q'
      have ea : a' = a := by rw [w1] at u1; cases u1; rfl
      subst ea
      exact ⟨a', ob, w1, w2, by show upd W.B t o a' = none; rw [upd_ne (fun z => by rw [z, ht] at u5; cases u5)]; exact w3, w4, w5, w6⟩
  · obtain ⟨q1, q2, q3, q4, q5⟩ := r0.pool hu
    obtain ⟨_, _, u3, _, _⟩ := r.pool hu
    exact ⟨by show upd W.B t o W.A = none; rw [upd_ne (fun z => by rw [z, ht] at u3; cases u3)]; exact q1, q2, q3, q4, q5⟩
theorem R.dropB {W : Wd} {B : Hp} {F H : Hp} {σ : L2.St} {s : List Sl} {p : PL} (sm : Same W.B B) (r : R K { W with B := B } F σ s p H) : R K W F σ s p H := by
  refine ⟨sm.trans r.exB, r.exF, fun i x hx => ?_, r.dist, fun hu => ?_, r.len⟩
  · have q := r.slot i x hx
    cases x with
    | no => trivial
    | fz d => exact q
    | pl => exact q
    | ol xs =>
      obtain ⟨a, ob, w1, w2, w3, w4, w5, w6⟩ := q
      exact ⟨a, ob, w1, w2, sm.free w3, w4, w5, w6⟩
    | od k xs =>
      obtain ⟨a, ob, w1, w2, w3, w4, w5, w6⟩ := q
      exact ⟨a, ob, w1, w2, sm.free w3, w4, w5, w6⟩
  · obtain ⟨q1, q2, q3, q4, q5⟩ := r.pool hu
    exact ⟨sm.free q1, q2, q3, q4, q5⟩
/-- name = {k: v}: a dict of one's own -/
def xDisp1 (i : Nat) (fk fv : FE) : FS := fun s p => (fk s p).bind fun x => (fv s x.2).bind fun y => (kT? x.1).bind fun k => if i < s.length then some (.nx (s.set i (.od 1 [(.tup (k.map keyD), y.1)])) y.2) else none
theorem sd_disp1 {i : Nat} {y : Str} {k v : Expr} {fk fv : FE} {p2 pos dpos : Pos} (hu : X.A.units < cLine) (hk : ED X k fk) (hv : ED X v fv) (hN : X.N.Nodup) (hi : X.N[i]? = some y) (hx : Loc X.env.scope y) (hs : swapsWith (.Dict [some k] [v] dpos) (some (.Name y p2)) pos.line X.env = pure false := by rfl) (hf : X.fn y = true ∨ X.env.scope.names.lookup y = some .local := by first | exact .inl rfl | exact .inr rfl | assumption) :
    SD X (.Assign [.Name y p2] (.Dict [some k] [v] dpos) pos) (xDisp1 i fk fv) := by
  obtain ⟨tk, pk, sk⟩ := hk
  obtain ⟨tv, pv, sv⟩ := hv
  refine ⟨_, ps_set hN hi hx (pe_disp1T hu pk pv) hs hf, fun W F σ s p H Dn o r hl h q => ?_⟩
  unfold xDisp1 at h
  cases e1 : fk s p with
  | none => rw [e1] at h; cases h
  | some x =>
    rw [e1] at h
    change (fv s x.2).bind _ = _ at h
    cases e2 : fv s x.2 with
    | none => rw [e2] at h; cases h
    | some z =>
      rw [e2] at h
      change (kT? x.1).bind _ = _ at h
      cases e3 : kT? x.1 with
      | none => rw [e3] at h; cases h
      | some k =>
        rw [e3] at h
        change (if i < s.length then some (Out.nx (s.set i (.od 1 [(.tup (k.map keyD), z.1)])) z.2) else none) = some o at h
        split at h
        · rename_i hil
          cases h
          intro t ht
          have hft : F t = none := r.exF.free ht
          have hbt : W.B t = none := r.exB.free ht
          have r0 := r.addB (o := .dT []) ht
          refine sk _ F σ s p _ _ x.1 x.2 r0 e1 fun w F1 H1 x1 r1 a1 => sv _ F1 σ s x.2 H1 _ z.1 z.2 r1 e2 fun u F2 H2 x2 r2 a2 => ?_
          have xx := x1.trans x2
          have ht2 : F2 t = none := by rw [xx.fsh t (by rw [upd_same]; exact fun z => nomatch z)]; exact hft
          have hH2 : H2 t = some (.dT []) := r2.exB t _ (by show upd W.B t _ t = _; rw [upd_same])
          obtain ⟨b, rfl, hb⟩ := kT_at r2.exF (At.mono x2.ex _ _ a1) e3
          refine ⟨hH2, b, k, u, rfl, hb, ?_⟩
          have r3 : R X.K W F2 σ s z.2 H2 := r2.dropB (same_upd hbt)
          have nslot : ∀ (j : Nat) y, s[j]? = some y → y.own = true → σ[j]? ≠ some (some (.ref t)) := fun j y hy oy e => by
            obtain ⟨a', o', u1, _, _, _, u5, _⟩ := slok_own oy (r.slot j y hy)
            rw [u1] at e; cases e
            rw [ht] at u5; cases u5
          have hA : W.u = true → t ≠ W.A := fun hu z => by
            obtain ⟨_, _, q3, _⟩ := r.pool hu
            rw [← z, ht] at q3; cases q3
          have xe : ExtS W F H F2 (upd H2 t (.dT [(k, u)])) := by
            have x0 : Ext F H F (upd H t (.dT [])) := Ext.heap grow_upd
            exact ((x0.trans xx).trans (Ext.heap grow_upd)).s r
          -- the heap with the dict written
          have r4 : R X.K W F2 σ s z.2 (upd H2 t (.dT [(k, u)])) := by
            refine ⟨upd_over r3.exB hbt, upd_over r3.exF ht2, fun j y hy => ?_, r3.dist, fun hu => ?_, r3.len⟩
            · have q := r3.slot j y hy
              cases y with
              | no => trivial
              | fz d => exact q
              | pl => exact q
              | ol xs =>
                obtain ⟨a, ob, w1, w2, w3, w4, w5, w6⟩ := q
                exact ⟨a, ob, w1, w2, w3, w4, by rw [upd_ne (fun e => nslot j _ hy rfl (by rw [w1, e]))]; exact w5, w6⟩
              | od k xs =>
                obtain ⟨a, ob, w1, w2, w3, w4, w5, w6⟩ := q
                exact ⟨a, ob, w1, w2, w3, w4, by rw [upd_ne (fun e => nslot j _ hy rfl (by rw [w1, e]))]; exact w5, w6⟩
            · obtain ⟨q1, q2, q3, q4, q5⟩ := r3.pool hu
              exact ⟨q1, q2, by rw [upd_ne (Ne.symm (hA hu))]; exact q3, q4, q5⟩
          refine q _ F2 _ (by simp [hl]) xe (r4.ownNew (by omega) hbt ht2 upd_same (.inr ⟨rfl, _, rfl, k, u, [], rfl, rfl, a2, rfl⟩) hA nslot)
        · cases h
def xPut (i : Nat) (fk fv : FE) : FS := fun s p => match s[i]? with
  | some (.ol xs) => (fv s p).bind fun x => (fk s x.2).bind fun y => match y.1 with
    | .int k => (ixN xs.length k).map fun j => .nx (s.set i (.ol (xs.set j x.1))) y.2
    | _ => none
  | _ => none
theorem sd_put {i : Nat} {y : Str} {k value : Expr} {fk fv : FE} {p1 p3 pos : Pos} (hk : ED X k fk) (hv : ED X value fv) (hN : X.N[i]? = some y := by rfl) (hvs : Vis X.env.scope y := by first | exact Or.inl rfl | exact Or.inr (Or.inl rfl) | exact Or.inr (Or.inr rfl)) (hd : (y == ("__debug__" : Str)) = false := by decide) (hcd : (y == ("__classdict__" : Str)) = false := by decide)
    (hs : swapsWithSole [.Subscript (.Name y p1) k p3] value pos.line X.env = pure false := by rfl) (hw : swappedStores [.Subscript (.Name y p1) k p3] value X.env = pure none := by rfl)
    (h1 : (assignEach [.Subscript (.Name y p1) k p3] X.env).map (·.2) = [assign (.Subscript (.Name y p1) k p3) X.env] := by rfl)
    (ha : ∀ v, assign (.Subscript (.Name y p1) k p3) X.env v = (do
      let ov ← holding [v] (eval (.Name y p1) X.env)
      let iv ← holding [v, ov] (eval k X.env)
      standAt p3
      holding [v, ov, iv] (setItem ov iv v)
      release [v, ov, iv] []) := by intro _; rfl) :
    SD X (.Assign [.Subscript (.Name y p1) k p3] value pos) (xPut i fk fv) := by
  obtain ⟨tk, pk, sk⟩ := hk
  obtain ⟨tv, pv, sv⟩ := hv
  refine ⟨_, ps_asg pv (pg_sub (pe_var hN hvs hd hcd) pk set_list ha) hs hw h1, fun W F σ s p H Dn o r hl h q => ?_⟩
  unfold xPut at h
  split at h
  · rename_i xs hsl
    cases e1 : fv s p with
    | none => rw [e1] at h; cases h
    | some x =>
      rw [e1] at h
      change (fk s x.2).bind _ = _ at h
      cases e2 : fk s x.2 with
      | none => rw [e2] at h; cases h
      | some z =>
        rw [e2] at h
        change (match z.1 with | .int k => (ixN xs.length k).map fun j => Out.nx (s.set i (.ol (xs.set j x.1))) z.2 | _ => none) = some o at h
        refine sv W F σ s p H _ x.1 x.2 r e1 fun v F1 H1 x1 r1 a1 => ?_
        obtain ⟨a0, o0, u1, _, _, _, u5, _⟩ := slok_own rfl (r1.slot i _ hsl)
        refine ⟨.ref a0, u1, ?_⟩
        refine sk W F1 σ s x.2 H1 _ z.1 z.2 r1 e2 fun w F2 H2 x2 r2 a2 => ?_
        obtain ⟨a', o', w1, w2, w3, w4, w5, w6⟩ := slok_own rfl (r2.slot i _ hsl)
        have ea : a' = a0 := by rw [u1] at w1; cases w1; rfl
        subst ea
        split at h
        · rename_i k hk
          rw [hk] at a2
          cases a2
          cases e4 : ixN xs.length k with
          | none => rw [e4] at h; cases h
          | some j =>
            rw [e4] at h
            cases h
            obtain ⟨vs, rfl, w6⟩ := w6
            refine ⟨a', vs, k, j, rfl, rfl, w5, by rw [← w6.len]; exact e4, ?_⟩
            exact q σ F2 _ (by simp [hl]) (((x1.trans x2).trans (Ext.heap grow_upd)).s r) (r2.ownSet hsl rfl u1 ⟨_, rfl, AtL.set j w6 (At.mono x2.ex _ _ a1)⟩)
        · cases h
  · cases h
end
end DL

namespace DL
open PySem L2
def p0 : PL := ⟨[], 0, 0, 0, 0⟩
def Out.atP (p : PL) : Out → Out
  | .nx s _ => .nx s p
  | .rt d _ => .rt d p
  | .bk s _ => .bk s p
  | .ct s _ => .ct s p
theorem Out.atP_atP (p q : PL) : ∀ o : Out, (o.atP q).atP p = o.atP p
  | .nx _ _ => rfl
  | .rt _ _ => rfl
  | .bk _ _ => rfl
  | .ct _ _ => rfl
class NoE {α : Type} (f : List Sl → PL → Option (α × PL)) : Prop where
  eq : ∀ s p, f s p = (f s p0).map fun x => (x.1, p)
class NoS (g : FS) : Prop where
  eq : ∀ s p, g s p = (g s p0).map (Out.atP p)
theorem NoE.of {α : Type} {f : List Sl → PL → Option (α × PL)} (h : NoE f) (s : List Sl) (p q : PL) : f s p = (f s q).map fun x => (x.1, p) := by
  rw [h.eq s p, h.eq s q]
  cases f s p0 <;> rfl
theorem NoS.of {g : FS} (h : NoS g) (s : List Sl) (p q : PL) : g s p = (g s q).map (Out.atP p) := by
  rw [h.eq s p, h.eq s q]
  cases g s p0 with
  | none => rfl
  | some o => exact congrArg some (Out.atP_atP p q o).symm
section
variable {α β : Type} {fa fb : FE} {fs fr : FA} {ft fu : FT} {fl fh : FO} {a b : FS}
instance (i : Nat) : NoE (fV i) := ⟨fun s p => by
  unfold fV
  split <;> rfl⟩
instance (d : D) : NoE (fC d) := ⟨fun s p => rfl⟩
/-- one after another -/
theorem noE_bind {γ : Type} {f : List Sl → PL → Option (α × PL)} {h : α → List Sl → PL → Option (γ × PL)} (hf : NoE f) (hh : ∀ x, NoE (h x)) : NoE (fun s p => (f s p).bind fun x => h x.1 s x.2) := ⟨fun s p => by
  show (f s p).bind _ = ((f s p0).bind _).map _
  rw [hf.eq s p]
  cases e : f s p0 with
  | none => rfl
  | some x =>
    show h x.1 s p = (h x.1 s x.2).map _
    exact (hh x.1).of s p x.2⟩
theorem noE_opt {γ : Type} (o : Option γ) : NoE (fun (_ : List Sl) (p : PL) => o.map fun z => (z, p)) := ⟨fun s p => by cases o <;> rfl⟩
instance noE_bin (o : D → D → Option D) [ha : NoE fa] [hb : NoE fb] : NoE (fBin o fa fb) :=
  noE_bind (h := fun x s p => (fb s p).bind fun y => (o x y.1).map fun z => (z, y.2)) ha fun x => noE_bind (h := fun y _ p => (o x y).map fun z => (z, p)) hb fun y => noE_opt _
instance noE_un (o : D → Option D) [ha : NoE fa] : NoE (fUn o fa) := noE_bind (h := fun x _ p => (o x).map fun z => (z, p)) ha fun x => noE_opt _
instance : NoE fNil := ⟨fun s p => rfl⟩
instance noE_cons [ha : NoE fa] [hb : NoE fs] : NoE (fCons fa fs) := ⟨fun s p => by
  unfold fCons
  rw [ha.eq s p]
  cases fa s p0 with
  | none => rfl
  | some x =>
    show (fs s p).map _ = ((fs s x.2).map _).map _
    rw [hb.of s p x.2]
    cases fs s x.2 <;> rfl⟩
instance noE_tup [ha : NoE fs] : NoE (fTup fs) := ⟨fun s p => by
  unfold fTup
  rw [ha.eq s p]
  cases fs s p0 <;> rfl⟩
instance noE_lst [ha : NoE fs] : NoE (fLst fs) := ⟨fun s p => by
  unfold fLst
  rw [ha.eq s p]
  cases fs s p0 <;> rfl⟩
instance noE_call (S : List D → Option D) [ha : NoE fs] : NoE (fCall S fs) := noE_bind (h := fun x _ p => (S x).map fun z => (z, p)) ha fun x => noE_opt _
instance noE_callL (S : List D → Option (List D)) [ha : NoE fs] : NoE (fCallL S fs) := noE_bind (h := fun x _ p => (S x).map fun z => (z, p)) ha fun x => noE_opt _
instance noE_tst [ha : NoE fa] : NoE (fTst fa) := ⟨fun s p => by
  unfold fTst
  rw [ha.eq s p]
  cases fa s p0 with
  | none => rfl
  | some x => obtain ⟨d, q⟩ := x; cases d <;> rfl⟩
instance noE_if [ht : NoE ft] [ha : NoE fa] [hb : NoE fb] : NoE (fIf ft fa fb) := noE_bind (h := fun x s p => if x = true then fa s p else fb s p) ht fun x => ⟨fun s p => by
  cases x
  · exact hb.eq s p
  · exact ha.eq s p⟩
instance noE_and [ht : NoE ft] [ha : NoE fu] : NoE (fAnd ft fu) := noE_bind (h := fun x s p => if x = true then fu s p else some (false, p)) ht fun x => ⟨fun s p => by
  cases x
  · rfl
  · exact ha.eq s p⟩
instance noE_or [ht : NoE ft] [ha : NoE fu] : NoE (fOr ft fu) := noE_bind (h := fun x s p => if x = true then some (true, p) else fu s p) ht fun x => ⟨fun s p => by
  cases x
  · exact ha.eq s p
  · rfl⟩
instance noE_not [ht : NoE ft] : NoE (fNot ft) := ⟨fun s p => by
  unfold fNot
  rw [ht.eq s p]
  cases ft s p0 <;> rfl⟩
instance noE_b [ht : NoE ft] : NoE (fB ft) := ⟨fun s p => by
  unfold fB
  rw [ht.eq s p]
  cases ft s p0 <;> rfl⟩
instance noE_andV [ha : NoE fa] [hb : NoE fb] : NoE (fAndV fa fb) := ⟨fun s p => by
  unfold fAndV
  rw [ha.eq s p]
  cases fa s p0 with
  | none => rfl
  | some x =>
    obtain ⟨d, q⟩ := x
    cases d with
    | bl b =>
      cases b
      · rfl
      · exact hb.of s p q
    | _ => rfl⟩
instance noE_orV [ha : NoE fa] [hb : NoE fb] : NoE (fOrV fa fb) := ⟨fun s p => by
  unfold fOrV
  rw [ha.eq s p]
  cases fa s p0 with
  | none => rfl
  | some x =>
    obtain ⟨d, q⟩ := x
    cases d with
    | bl b =>
      cases b
      · exact hb.of s p q
      · rfl
    | _ => rfl⟩
instance noE_notV [ha : NoE fa] : NoE (fNotV fa) := ⟨fun s p => by
  unfold fNotV
  rw [ha.eq s p]
  cases fa s p0 with
  | none => rfl
  | some x => obtain ⟨d, q⟩ := x; cases d <;> rfl⟩
instance noE_thE [ha : NoE fa] : NoE (thE fa) := ⟨fun s p => by
  unfold thE
  rw [ha.eq (freeze s) p]
  cases fa (freeze s) p0 with
  | none => rfl
  | some x =>
    show (if x.1.imm = true then some (x.1, p) else none) = (if x.1.imm = true then some x else none : Option (D × PL)).map _
    split <;> rfl⟩
instance noE_thA [ha : NoE fs] : NoE (thA fs) := ⟨fun s p => by
  unfold thA
  rw [ha.eq (freeze s) p]
  cases fs (freeze s) p0 with
  | none => rfl
  | some x =>
    show (if immL x.1 = true then some (x.1, p) else none) = (if immL x.1 = true then some x else none : Option (List D × PL)).map _
    split <;> rfl⟩
instance noE_thT [ha : NoE ft] : NoE (thT ft) := ⟨fun s p => ha.eq (freeze s) p⟩
instance : NoE fYes := ⟨fun s p => rfl⟩
theorem lcL_no {g : FG} {t : FT} {e : FE} (ht : NoE t) (he : NoE e) (s : List Sl) : ∀ (ds : List D) (p : PL), lcL g t e s ds p = (lcL g t e s ds p0).map fun x => (x.1, p)
  | [], p => rfl
  | d :: ds, p => by
    show (g d s).bind _ = ((g d s).bind _).map _
    cases g d s with
    | none => rfl
    | some s1 =>
      show (t s1 p).bind _ = ((t s1 p0).bind _).map _
      rw [ht.eq s1 p]
      cases e1 : t s1 p0 with
      | none => rfl
      | some b =>
        have ep : b.2 = p0 := by
          have := ht.eq s1 p0
          rw [e1] at this
          exact congrArg Prod.snd (Option.some.inj this)
        show (if b.1 = true then (e s1 p).bind _ else lcL g t e s ds p) = (if b.1 = true then (e s1 b.2).bind _ else lcL g t e s ds b.2).map _
        rw [ep]
        split
        · rw [he.eq s1 p]
          cases e2 : e s1 p0 with
          | none => rfl
          | some x =>
            have ep2 : x.2 = p0 := by
              have := he.eq s1 p0
              rw [e2] at this
              exact congrArg Prod.snd (Option.some.inj this)
            show (lcL g t e s ds p).map _ = ((lcL g t e s ds x.2).map _).map _
            rw [ep2, lcL_no ht he s ds p]
            cases lcL g t e s ds p0 <;> rfl
        · exact lcL_no ht he s ds p
instance noE_lc (own : List Nat) (g : FG) [hi : NoE fs] [ht : NoE ft] [he : NoE fa] : NoE (fLc own fs g ft fa) := ⟨fun s p => by
  unfold fLc
  rw [hi.eq s p]
  cases e1 : fs s p0 with
  | none => rfl
  | some x =>
    have ep : x.2 = p0 := by
      have := hi.eq s p0
      rw [e1] at this
      exact congrArg Prod.snd (Option.some.inj this)
    show (if own.all (notOwn s) = true then lcL g ft fa (wipeS s own) x.1 p else none) = (if own.all (notOwn s) = true then lcL g ft fa (wipeS s own) x.1 x.2 else none : Option (List D × PL)).map _
    rw [ep]
    split
    · exact lcL_no ht he _ _ _
    · rfl⟩
instance noE_seq [ha : NoE fa] : NoE (fSeq fa) := noE_bind (h := fun x _ p => (seqOf x).map fun z => (z, p)) ha fun x => noE_opt _
instance noE_cat [ha : NoE fa] [hb : NoE fb] : NoE (fCat fa fb) := ⟨fun s p => by
  unfold fCat
  rw [ha.eq s p]
  cases fa s p0 with
  | none => rfl
  | some x =>
    show (fb s p).bind _ = ((fb s x.2).bind _).map _
    rw [hb.of s p x.2]
    cases fb s x.2 with
    | none => rfl
    | some y =>
      obtain ⟨d, q⟩ := x
      obtain ⟨d2, q2⟩ := y
      simp only [Option.bind_some, Option.map_some]
      split
      · split <;> rfl
      · rfl⟩
instance noE_repL [ha : NoE fa] [hb : NoE fb] : NoE (fRepL fa fb) := ⟨fun s p => by
  unfold fRepL
  rw [ha.eq s p]
  cases fa s p0 with
  | none => rfl
  | some x =>
    show (fb s p).bind _ = ((fb s x.2).bind _).map _
    rw [hb.of s p x.2]
    cases fb s x.2 with
    | none => rfl
    | some y =>
      obtain ⟨d, q⟩ := x
      obtain ⟨d2, q2⟩ := y
      simp only [Option.bind_some, Option.map_some]
      split
      · split <;> rfl
      · rfl⟩
instance : NoE fNoPart := ⟨fun s p => rfl⟩
instance noE_part [ha : NoE fa] : NoE (fPart fa) := ⟨fun s p => by
  unfold fPart
  rw [ha.eq s p]
  cases fa s p0 with
  | none => rfl
  | some x => obtain ⟨d, q⟩ := x; cases d <;> rfl⟩
instance noE_slL [ha : NoE fa] [h1 : NoE fl] [h2 : NoE fh] : NoE (fSlL fa fl fh) := ⟨fun s p => by
  unfold fSlL
  rw [ha.eq s p]
  cases fa s p0 with
  | none => rfl
  | some x =>
    show (fl s p).bind _ = ((fl s x.2).bind _).map _
    rw [h1.of s p x.2]
    cases fl s x.2 with
    | none => rfl
    | some l =>
      show (fh s p).bind _ = ((fh s l.2).bind _).map _
      rw [h2.of s p l.2]
      cases fh s l.2 with
      | none => rfl
      | some h => obtain ⟨d, q⟩ := x; cases d <;> rfl⟩
instance noE_slT [ha : NoE fa] [h1 : NoE fl] [h2 : NoE fh] : NoE (fSlT fa fl fh) := ⟨fun s p => by
  unfold fSlT
  rw [ha.eq s p]
  cases fa s p0 with
  | none => rfl
  | some x =>
    show (fl s p).bind _ = ((fl s x.2).bind _).map _
    rw [h1.of s p x.2]
    cases fl s x.2 with
    | none => rfl
    | some l =>
      show (fh s p).bind _ = ((fh s l.2).bind _).map _
      rw [h2.of s p l.2]
      cases fh s l.2 with
      | none => rfl
      | some h => obtain ⟨d, q⟩ := x; cases d <;> rfl⟩
instance noE_revL [ha : NoE fa] : NoE (fRevL fa) := ⟨fun s p => by
  unfold fRevL
  rw [ha.eq s p]
  cases fa s p0 with
  | none => rfl
  | some x => obtain ⟨d, q⟩ := x; cases d <;> rfl⟩
instance noE_din (i : Nat) (neg : Bool) [ha : NoE fa] : NoE (fDIn i neg fa) := ⟨fun s p => by
  unfold fDIn
  split
  · rw [ha.eq s p]
    cases fa s p0 with
    | none => rfl
    | some x =>
      show (kT? x.1).map _ = ((kT? x.1).map _).map _
      cases kT? x.1 <;> rfl
  · rfl⟩
theorem noS_bind {f : List Sl → PL → Option (α × PL)} {h : α → FS} (hf : NoE f) (hh : ∀ x, NoS (h x)) : NoS (fun s p => (f s p).bind fun x => h x.1 s x.2) := ⟨fun s p => by
  show (f s p).bind _ = ((f s p0).bind _).map _
  rw [hf.eq s p]
  cases e : f s p0 with
  | none => rfl
  | some x =>
    show h x.1 s p = (h x.1 s x.2).map _
    exact (hh x.1).of s p x.2⟩
instance : NoS xNx := ⟨fun s p => rfl⟩
instance : NoS xBrk := ⟨fun s p => rfl⟩
instance : NoS xCnt := ⟨fun s p => rfl⟩
instance : NoS xNever := ⟨fun s p => rfl⟩
instance noS_seq [ha : NoS a] [hb : NoS b] : NoS (xSeq a b) := ⟨fun s p => by
  unfold xSeq
  rw [ha.eq s p]
  cases a s p0 with
  | none => rfl
  | some o =>
    cases o with
    | nx s1 p1 =>
      show b s1 p = (b s1 p1).map _
      exact hb.of s1 p p1
    | rt d p1 => rfl
    | bk s1 p1 => rfl
    | ct s1 p1 => rfl⟩
instance noS_set (i : Nat) [ha : NoE fa] : NoS (xSet i fa) := noS_bind (h := fun x s p => if i < s.length then some (.nx (s.set i (.fz x)) p) else none) ha fun x => ⟨fun s p => by split <;> rfl⟩
instance noS_asg (g : FG) [ha : NoE fa] : NoS (xAsg g fa) := noS_bind (h := fun x s p => (g x s).map fun s1 => .nx s1 p) ha fun x => ⟨fun s p => by cases g x s <;> rfl⟩
instance noS_own (i : Nat) [ha : NoE fs] : NoS (xOwn i fs) := noS_bind (h := fun x s p => if i < s.length then some (.nx (s.set i (.ol x)) p) else none) ha fun x => ⟨fun s p => by split <;> rfl⟩
instance noS_ret [ha : NoE fa] : NoS (xRet fa) := ⟨fun s p => by
  unfold xRet
  rw [ha.eq s p]
  cases fa s p0 <;> rfl⟩
instance noS_drop [ha : NoE fa] : NoS (xDrop fa) := ⟨fun s p => by
  unfold xDrop
  rw [ha.eq s p]
  cases fa s p0 <;> rfl⟩
instance noS_if [ht : NoE ft] [ha : NoS a] [hb : NoS b] : NoS (xIf ft a b) := noS_bind (h := fun x s p => if x = true then a s p else b s p) ht fun x => ⟨fun s p => by
  cases x
  · exact hb.eq s p
  · exact ha.eq s p⟩
instance noS_retTh [ha : NoE fa] : NoS (xRetTh fa) := ⟨fun s p => by
  unfold xRetTh
  rw [ha.eq (freeze s) p]
  cases fa (freeze s) p0 <;> rfl⟩
instance (i j : Nat) : NoS (xMove i j) := ⟨fun s p => by
  unfold xMove
  split
  · split <;> rfl
  · rfl⟩
instance noS_app (i : Nat) [ha : NoE fa] : NoS (xApp i fa) := ⟨fun s p => by
  unfold xApp
  split
  · rename_i xs _
    rw [ha.eq s p]
    cases fa s p0 with
    | none => rfl
    | some x =>
      simp only [Option.bind_some, Option.map_some]
      split <;> rfl
  · rfl⟩
instance noS_par (i j : Nat) [ha : NoE fs] : NoS (xPar i j fs) := ⟨fun s p => by
  unfold xPar
  rw [ha.eq s p]
  cases fs s p0 with
  | none => rfl
  | some x =>
    simp only [Option.bind_some, Option.map_some]
    split
    · split <;> rfl
    · rfl⟩
instance noS_aug (i : Nat) (o : D → D → Option D) [ha : NoE fa] : NoS (xAug i o fa) := ⟨fun s p => by
  unfold xAug
  split
  · rw [ha.eq s p]
    rename_i d _
    cases fa s p0 with
    | none => rfl
    | some x =>
      show (o d x.1).map _ = ((o d x.1).map _).map _
      cases o d x.1 <;> rfl
  · rfl⟩
instance noS_dput (i : Nat) [hk : NoE fa] [hv : NoE fb] : NoS (xDPut i fa fb) := ⟨fun s p => by
  unfold xDPut
  split
  · rw [hv.eq s p]
    cases fb s p0 with
    | none => rfl
    | some x =>
      show (fa s p).bind _ = ((fa s x.2).bind _).map _
      rw [hk.of s p x.2]
      cases fa s x.2 with
      | none => rfl
      | some y =>
        simp only [Option.bind_some, Option.map_some]
        cases kT? y.1 with
        | none => rfl
        | some k =>
          simp only [Option.bind_some]
          split <;> rfl
  · rfl⟩
instance noS_disp1 (i : Nat) [hk : NoE fa] [hv : NoE fb] : NoS (xDisp1 i fa fb) := ⟨fun s p => by
  unfold xDisp1
  rw [hk.eq s p]
  cases fa s p0 with
  | none => rfl
  | some x =>
    show (fb s p).bind _ = ((fb s x.2).bind _).map _
    rw [hv.of s p x.2]
    cases fb s x.2 with
    | none => rfl
    | some y =>
      simp only [Option.bind_some, Option.map_some]
      cases kT? x.1 with
      | none => rfl
      | some k =>
        simp only [Option.bind_some]
        split <;> rfl⟩
instance noS_put (i : Nat) [hk : NoE fa] [hv : NoE fb] : NoS (xPut i fa fb) := ⟨fun s p => by
  unfold xPut
  split
  · rename_i xs _
    rw [hv.eq s p]
    cases fb s p0 with
    | none => rfl
    | some x =>
      show (fa s p).bind _ = ((fa s x.2).bind _).map _
      rw [hk.of s p x.2]
      cases fa s x.2 with
      | none => rfl
      | some y =>
        cases hy : y.1 with
        | int k =>
          simp only [Option.bind_some, Option.map_some, hy]
          cases ixN xs.length k <;> rfl
        | _ => simp only [Option.bind_some, Option.map_some, hy] <;> rfl
  · rfl⟩
theorem forL_no {g : FG} (hb : NoS b) : ∀ (ds : List D) (s : List Sl) (p : PL), forL g b ds s p = (forL g b ds s p0).map (Out.atP p)
  | [], s, p => rfl
  | d :: ds, s, p => by
    show (g d s).bind _ = ((g d s).bind _).map _
    cases g d s with
    | none => rfl
    | some s1 =>
      show (b s1 p).bind _ = ((b s1 p0).bind _).map _
      rw [hb.eq s1 p]
      cases b s1 p0 with
      | none => rfl
      | some o =>
        have go : ∀ (s2 : List Sl) (p2 : PL), forL g b ds s2 p = (forL g b ds s2 p2).map (Out.atP p) := fun s2 p2 => by
          rw [forL_no hb ds s2 p, forL_no hb ds s2 p2]
          cases forL g b ds s2 p0 with
          | none => rfl
          | some o => exact congrArg some (Out.atP_atP p p2 o).symm
        cases o with
        | nx s2 p2 => exact go s2 p2
        | ct s2 p2 => exact go s2 p2
        | bk s2 p2 => rfl
        | rt d2 p2 => rfl
instance noS_for (g : FG) [hi : NoE fs] [hb : NoS b] : NoS (xFor fs g b) := noS_bind (h := fun x s p => forL g b x s p) hi fun x => ⟨fun s p => forL_no hb x s p⟩
theorem whN_no {c : FT} (hc : NoE c) (hb : NoS b) : ∀ (n : Nat) (s : List Sl) (p q : PL), whN n c b s p = (whN n c b s q).map (Out.atP p)
  | 0, s, p, q => rfl
  | n + 1, s, p, q => by
    show (c s p).bind _ = ((c s q).bind _).map _
    rw [hc.of s p q]
    cases c s q with
    | none => rfl
    | some x =>
      show (if x.1 = true then (b s p).bind _ else _) = (if x.1 = true then (b s x.2).bind _ else _).map _
      split
      · rw [hb.of s p x.2]
        cases b s x.2 with
        | none => rfl
        | some o =>
          cases o with
          | nx s2 p2 => exact whN_no hc hb n s2 p p2
          | ct s2 p2 => exact whN_no hc hb n s2 p p2
          | bk s2 p2 => rfl
          | rt d p2 => rfl
      · rfl
instance noS_wh [hc : NoE ft] [hb : NoS b] : NoS (xWh ft b) := ⟨fun s p => whN_no hc hb _ s p p0⟩
end

def outD : Option Out → Option D
  | some (.rt d _) => some d
  | some (.nx _ _) => some .non
  | _ => none
def SOf (N : List Str) (n : Nat) (g : FS) : List D → Option D := fun ds => if ds.length = n then outD (g (st0 N ds) p0) else none
theorem SOf_ok {N ps : List Str} {n : Nat} {g : FS} (hn : ps.length = n) (h : NoS g) : ∀ ds d, SOf N n g ds = some d → ds.length = ps.length ∧ ∀ p, ∃ o, g (st0 N ds) p = some o ∧ ((∃ p', o = .rt d p') ∨ (d = .non ∧ ∃ s' p', o = .nx s' p')) := by
  intro ds d e
  unfold SOf at e
  split at e
  · rename_i hl
    refine ⟨hl.trans hn.symm, fun p => ?_⟩
    rw [h.eq _ p]
    cases e1 : g (st0 N ds) p0 with
    | none => rw [e1] at e; cases e
    | some o =>
      rw [e1] at e
      cases o with
      | rt d2 p2 => cases e; exact ⟨_, rfl, .inl ⟨_, rfl⟩⟩
      | nx s2 p2 => cases e; exact ⟨_, rfl, .inr ⟨rfl, _, _, rfl⟩⟩
      | bk _ _ => cases e
      | ct _ _ => cases e
  · cases e
/-- of a def that draws -/
def SPOf (N : List Str) (n : Nat) (g : FS) : List D → Pool → Option (D × Pool) := fun ds p => if ds.length = n then match g (stP N ds) p with
  | some (.rt d p') => some (d, p')
  | _ => none else none
end DL

namespace DL
open PySem PySem.Spec PyProof.Rows L2
section
variable {X : Cx} {K : PySem.W.Frag}
/-- statements that end with the return of a new list -/
def ND (X : Cx) (st : List Stmt) (g : List Sl → PL → Option (List D × PL)) : Prop := ∃ ts, PSs X st ts ∧ ∀ W F σ s p H Dn ds p', R X.K W F σ s p H → σ.length = s.length → g s p = some (ds, p') →
  (∀ a vs F' H', ExtS W F H F' H' → Same W.B H' → Same F' H' → H a = none → F' a = none → H' a = some (.lst vs) → AtL X.K F' ds vs → Dn.rt (.ref a) H') → ts Dn σ H
theorem nd_ret {e : Expr} {f : FA} {pos : Pos} (h : LD X e f) : ND X [.Return (some e) pos] f := by
  obtain ⟨te, pe, se⟩ := h
  refine ⟨_, pss_one (ps_ret pe), fun W F σ s p H Dn ds p' r hl h q => ?_⟩
  exact se W F σ s p H _ ds p' r h fun a vs F1 H1 x1 r1 h0 hf ha a1 => q a vs F1 H1 (x1.s r) r1.exB r1.exF h0 hf ha a1
def nSeq (a : FS) (g : List Sl → PL → Option (List D × PL)) : List Sl → PL → Option (List D × PL) := fun s p => (a s p).bind fun o => match o with
  | .nx s1 p1 => g s1 p1
  | _ => none
theorem nd_cons {st : Stmt} {rest : List Stmt} {a : FS} {g : List Sl → PL → Option (List D × PL)} (h1 : SD X st a) (h2 : ND X rest g) : ND X (st :: rest) (nSeq a g) := by
  obtain ⟨t, pt, sa⟩ := h1
  obtain ⟨u, pu, sb⟩ := h2
  refine ⟨_, pss_cons pt pu, fun W F σ s p H Dn ds p' r hl h q => ?_⟩
  unfold nSeq at h
  cases e1 : a s p with
  | none => rw [e1] at h; cases h
  | some o1 =>
    rw [e1] at h
    cases o1 with
    | nx s1 p1 =>
      refine sa W F σ s p H { Dn with nx := u Dn } (.nx s1 p1) r hl e1 fun σ1 F1 H1 l1 x1 r1 => ?_
      refine sb W F1 σ1 s1 p1 H1 Dn ds p' r1 l1 h fun a vs F2 H2 x2 s1 s2 h0 hf ha a2 => q a vs F2 H2 (x1.trans x2) s1 s2 ?_ hf ha a2
      cases h9 : H a with
      | none => rfl
      | some o => exact absurd h0 (x1.grow a (ne_none_of h9))
    | rt d1 p1 => cases h
    | bk s1 p1 => cases h
    | ct s1 p1 => cases h
/-- the pool that a list's items tell -/
def poolOf : List D → Option Pool
  | [.lst xs, .int a, .int b, .int c, .int t] => (ints? xs).map fun ns => ⟨ns, a, b, c, t⟩
  | _ => none
def SNOf (N : List Str) (n : Nat) (g : List Sl → PL → Option (List D × PL)) : List D → Option Pool := fun ds => if ds.length = n then (g (st0 N ds) p0).bind fun x => poolOf x.1 else none
theorem fnNew {P : Program} {w : World} {mg : Str → Option Value} {base : Heap} {x qual : Str} {st : Stmt} {f : Addr} {fd : FuncData} {N ps : List Str} {k n : Nat} {g : List Sl → PL → Option (List D × PL)} (F : Fun K x qual st f fd) (Sc : FnScope N ps (defScope st)) (hn : ps.length = n)
    (hb : ∀ (cdv : Value) (A : Around) (outer : List Env) (s : Shared) (H : Hp) (E : XK), Room k (A.deeper (envOfC qual (defScope st) s.heap.objs.size f cdv)) → ND (cxOf CX0 P w K mg base N qual (defScope st) f cdv A outer s H E).nox (defBody st) g) : FnOk P w K mg base CX0 (k + 1) f fd ps (spNew K (SNOf N n g)) := by
  have hS : ∀ ds p, SNOf N n g ds = some p → ds.length = ps.length ∧ ∃ y, g (st0 N ds) p0 = some y ∧ poolOf y.1 = some p := fun ds p e => by
    unfold SNOf at e
    split at e
    · rename_i hl
      cases e1 : g (st0 N ds) p0 with
      | none => rw [e1] at e; cases e
      | some y => rw [e1] at e; exact ⟨hl.trans hn.symm, y, rfl, e⟩
    · cases e
  refine F.ok Sc (fun vs H Q E h => ?_) (fun cdv A outer s H vs Q E hr h => ?_)
  · obtain ⟨F0, ds, p, _, a, hs, _⟩ := h
    rw [← AtL.len a]
    exact (hS ds p hs).1
  · obtain ⟨F0, ds, p, sm, a, hs, q⟩ := h
    obtain ⟨ts, pt, sat⟩ := hb cdv A outer s H E hr
    refine ⟨ts, pt, ?_⟩
    obtain ⟨hl, y, hg, hp⟩ := hS ds p hs
    have hv : vs.length = ps.length := by rw [← AtL.len a]; exact hl
    have hN : ps.length ≤ N.length := by have := congrArg List.length Sc.pre; rw [List.length_take] at this; omega
    have r : R K { u := false, A := 0, sc := 0, B := H } F0 (L2.start N vs) (st0 N ds) p0 H :=
      ⟨Same.refl _, sm, fun i x hx => start_fz a hx, fun i j x y b _ hx _ ox => (by rw [st0_noown hx] at ox; cases ox), fun z => (by cases z), (by simp [L2.start, st0]; omega)⟩
    refine sat _ F0 _ _ _ H _ y.1 y.2 r r.len hg fun A0 us F' H' x1 s1 s2 h0 hf ha a1 => ?_
    unfold poolOf at hp
    split at hp
    · rename_i xs c1 c2 c3 c4 hy
      cases e3 : ints? xs with
      | none => rw [e3] at hp; cases hp
      | some ns =>
        rw [e3] at hp
        cases hp
        rw [hy] at a1
        obtain ⟨v1, r1, rfl, b1, v2, r2, rfl, b2, v3, r3, rfl, b3, v4, r4, rfl, b4, v5, r5, rfl, b5, rfl⟩ := a1
        cases b2; cases b3; cases b4; cases b5
        obtain ⟨sc, ws, rfl, k1, k2⟩ := b1
        rw [ints?_eq e3] at k2
        have k3 := AtL.ints_inv k2
        subst k3
        exact q A0 sc F' H' ⟨x1.ex, fun b hb => x1.fsh b (.inl hb), x1.grow⟩ s1 s2 h0 hf ha k1 (fun z => by rw [z, hf] at k1; cases k1)
    · cases hp
/-- a plain def, packed -/
theorem fnDO {P : Program} {w : World} {mg : Str → Option Value} {base : Heap} {x qual : Str} {st : Stmt} {f : Addr} {fd : FuncData} {N ps : List Str} {k n : Nat} {g : FS} (F : Fun K x qual st f fd) (Sc : FnScope N ps (defScope st)) (hn : ps.length = n) [no : NoS g]
    (hb : ∀ (cdv : Value) (A : Around) (outer : List Env) (s : Shared) (H : Hp) (E : XK), Room k (A.deeper (envOfC qual (defScope st) s.heap.objs.size f cdv)) → SSD (cxOf CX0 P w K mg base N qual (defScope st) f cdv A outer s H E).nox (defBody st) g) :
    FnOk P w K mg base CX0 (k + 1) f fd ps (spD K (SOf N n g)) := fnD F Sc hb (SOf_ok hn no)
/-- a def that draws, packed -/
theorem fnPO {P : Program} {w : World} {mg : Str → Option Value} {base : Heap} {x qual : Str} {st : Stmt} {f : Addr} {fd : FuncData} {N ps : List Str} {k n : Nat} {g : FS} (F : Fun K x qual st f fd) (Sc : FnScope N ps (defScope st)) (hn : ps.length = n + 1)
    (hb : ∀ (cdv : Value) (A : Around) (outer : List Env) (s : Shared) (H : Hp) (E : XK), Room k (A.deeper (envOfC qual (defScope st) s.heap.objs.size f cdv)) → SSD (cxOf CX0 P w K mg base N qual (defScope st) f cdv A outer s H E).nox (defBody st) g) :
    FnOk P w K mg base CX0 (k + 1) f fd ps (spP K (SPOf N n g)) := fnP F Sc hb fun ds p d p' e => by
  unfold SPOf at e
  split at e
  · rename_i hl
    refine ⟨by omega, ?_⟩
    split at e
    · rename_i d2 p2 h2
      cases e
      exact h2
    · cases e
  · cases e
theorem fun_of {x q : Str} {st : Stmt} {f : Addr} {fd : FuncData} (F : FunD K x q (defArgs st) (defBody st) (defScope st) [] [] f fd) : Fun K x q st f fd := by
  obtain ⟨oc, od, dV, kV, doc, pm, an, cdv, ct, osl, e, lk, hcd, hD, hK⟩ := F.ex
  rcases hD with ⟨_, rfl⟩ | ⟨e2, _⟩
  · exact ⟨⟨oc, od, kV, doc, pm, an, cdv, ct, osl, e, lk, hcd⟩, F.kp⟩
  · exact absurd rfl e2
theorem u65 {k : Nat} {A : Around} (r : Room k A) : A.units + 65 < cLine := by have := r.un; omega
theorem u64 {k : Nat} {A : Around} (r : Room k A) : A.units + 64 < cLine := by have := r.un; omega
theorem u1 {k : Nat} {A : Around} (r : Room k A) : A.units + 1 < cLine := by have := r.un; omega
theorem u0 {k : Nat} {A : Around} (r : Room k A) : A.units < cLine := by have := r.un; omega
end
end DL
namespace DL
open PySem PySem.Spec PyProof.Rows L2
/-- what is known of a def -/
structure Df (K : PySem.W.Frag) (mg : Str → Option Value) (x : Str) (st : Stmt) (ps : List Str) (f : Addr) (fd : FuncData) : Prop where
  F : Fun K x x st f fd
  g : mg x = some (.ref f)
  b : Binds K fd ps []
end DL
namespace DL
open PySem PySem.Spec PyProof.Rows L2
theorem fnNever {P : Program} {w : World} {K : PySem.W.Frag} {mg : Str → Option Value} {base : Heap} {k : Nat} {f : Addr} {fd : FuncData} {ps : List Str} : FnOk P w K mg base CX0 k f fd ps (spD K fun _ => none) :=
  ⟨fun vs H Q E h => (by obtain ⟨F, ds, d, _, _, e, _⟩ := h; cases e), fun A outer s H args us vs Q E _ _ _ _ h => (by obtain ⟨F, ds, d, _, _, e, _⟩ := h; cases e)⟩
end DL

namespace DL
open PySem L2
theorem ev_seq {a b : FS} {s s1 : List Sl} {p p1 : PL} {o : Option Out} (h : a s p = some (.nx s1 p1)) (h2 : b s1 p1 = o) : xSeq a b s p = o := by
  unfold xSeq
  rw [h]
  exact h2
theorem ev_seq_rt {a b : FS} {s : List Sl} {p p1 : PL} {d : D} (h : a s p = some (.rt d p1)) : xSeq a b s p = some (.rt d p1) := by
  unfold xSeq
  rw [h]
  rfl
theorem ev_set {i : Nat} {fe : FE} {s : List Sl} {p p1 : PL} {d : D} (h : fe s p = some (d, p1)) (hi : i < s.length) : xSet i fe s p = some (.nx (s.set i (.fz d)) p1) := by
  unfold xSet
  rw [h]
  show (if i < s.length then some (Out.nx (s.set i (.fz d)) p1) else none) = _
  rw [if_pos hi]
theorem ev_own {i : Nat} {fs : FA} {s : List Sl} {p p1 : PL} {ds : List D} (h : fs s p = some (ds, p1)) (hi : i < s.length) : xOwn i fs s p = some (.nx (s.set i (.ol ds)) p1) := by
  unfold xOwn
  rw [h]
  show (if i < s.length then some (Out.nx (s.set i (.ol ds)) p1) else none) = _
  rw [if_pos hi]
theorem ev_ret {fe : FE} {s : List Sl} {p p1 : PL} {d : D} (h : fe s p = some (d, p1)) : xRet fe s p = some (.rt d p1) := by
  unfold xRet
  rw [h]
  rfl
theorem ev_retTh {fe : FE} {s : List Sl} {p p1 : PL} {d : D} (h : fe (freeze s) p = some (d, p1)) : xRetTh fe s p = some (.rt d p1) := by
  unfold xRetTh
  rw [h]
  rfl
theorem ev_if {t : FT} {a b : FS} {s : List Sl} {p p1 : PL} {c : Bool} {o : Option Out} (h : t s p = some (c, p1)) (h1 : c = true → a s p1 = o) (h2 : c = false → b s p1 = o) : xIf t a b s p = o := by
  unfold xIf
  rw [h]
  show (if c = true then a s p1 else b s p1) = o
  cases c
  · exact h2 rfl
  · exact h1 rfl
theorem ev_ifT {t : FT} {a b : FS} {s : List Sl} {p p1 : PL} {o : Option Out} (h : t s p = some (true, p1)) (h1 : a s p1 = o) : xIf t a b s p = o := ev_if h (fun _ => h1) (fun z => by cases z)
theorem ev_ifF {t : FT} {a b : FS} {s : List Sl} {p p1 : PL} {o : Option Out} (h : t s p = some (false, p1)) (h1 : b s p1 = o) : xIf t a b s p = o := ev_if h (fun z => by cases z) (fun _ => h1)
theorem ev_app {i : Nat} {fe : FE} {s : List Sl} {p p1 : PL} {xs : List D} {d : D} (hs : s[i]? = some (.ol xs)) (h : fe s p = some (d, p1)) (hl : xs.length < 1000000) : xApp i fe s p = some (.nx (s.set i (.ol (xs ++ [d]))) p1) := by
  unfold xApp
  rw [hs]
  show (fe s p).bind _ = _
  rw [h]
  show (if xs.length < 1000000 then _ else _) = _
  rw [if_pos hl]
theorem ev_aug {i : Nat} {o : D → D → Option D} {fe : FE} {s : List Sl} {p p1 : PL} {d x z : D} (hs : s[i]? = some (.fz d)) (h : fe s p = some (x, p1)) (ho : o d x = some z) : xAug i o fe s p = some (.nx (s.set i (.fz z)) p1) := by
  unfold xAug
  rw [hs]
  show (fe s p).bind _ = _
  rw [h]
  show (o d x).map _ = _
  rw [ho]
  rfl
theorem ev_par {i j : Nat} {fs : FA} {s : List Sl} {p p1 : PL} {d d' : D} (h : fs s p = some ([d, d'], p1)) (hi : i < s.length ∧ j < s.length) : xPar i j fs s p = some (.nx ((s.set i (.fz d)).set j (.fz d')) p1) := by
  unfold xPar
  rw [h]
  show (if i < s.length ∧ j < s.length then _ else _) = _
  rw [if_pos hi]
theorem ev_disp1 {i : Nat} {fk fv : FE} {s : List Sl} {p p1 p2 : PL} {d v : D} {k : List Key} (h : fk s p = some (d, p1)) (hv : fv s p1 = some (v, p2)) (hk : kT? d = some k) (hi : i < s.length) : xDisp1 i fk fv s p = some (.nx (s.set i (.od 1 [(.tup (k.map keyD), v)])) p2) := by
  unfold xDisp1
  rw [h]
  show (fv s p1).bind _ = _
  rw [hv]
  show (kT? d).bind _ = _
  rw [hk]
  show (if i < s.length then _ else _) = _
  rw [if_pos hi]
theorem ev_dput {i : Nat} {fk fv : FE} {s : List Sl} {p p1 p2 : PL} {d v : D} {k : List Key} {kvs : List (D × D)} (hs : s[i]? = some (.od 1 kvs)) (hv : fv s p = some (v, p1)) (h : fk s p1 = some (d, p2)) (hk : kT? d = some k) (hl : kvs.length < 1000000) :
    xDPut i fk fv s p = some (.nx (s.set i (.od 1 (putT kvs k v))) p2) := by
  unfold xDPut
  rw [hs]
  show (fv s p).bind _ = _
  rw [hv]
  show (fk s p1).bind _ = _
  rw [h]
  show (kT? d).bind _ = _
  rw [hk]
  show (if kvs.length < 1000000 then _ else _) = _
  rw [if_pos hl]
theorem ev_for {fi : FA} {g : FG} {b : FS} {s : List Sl} {p p1 : PL} {ds : List D} {o : Option Out} (h : fi s p = some (ds, p1)) (h2 : forL g b ds s p1 = o) : xFor fi g b s p = o := by
  unfold xFor
  rw [h]
  exact h2
theorem forL_nil {g : FG} {b : FS} {s : List Sl} {p : PL} : forL g b [] s p = some (.nx s p) := rfl
theorem forL_cons {g : FG} {b : FS} {s s1 s2 : List Sl} {p p2 : PL} {d : D} {ds : List D} {o : Option Out} (hg : g d s = some s1) (hb : b s1 p = some (.nx s2 p2)) (h : forL g b ds s2 p2 = o) : forL g b (d :: ds) s p = o := by
  show (g d s).bind _ = o
  rw [hg]
  show (b s1 p).bind _ = o
  rw [hb]
  exact h
theorem forL_rt {g : FG} {b : FS} {s s1 : List Sl} {p p2 : PL} {d r : D} {ds : List D} (hg : g d s = some s1) (hb : b s1 p = some (.rt r p2)) : forL g b (d :: ds) s p = some (.rt r p2) := by
  show (g d s).bind _ = _
  rw [hg]
  show (b s1 p).bind _ = _
  rw [hb]
  rfl
theorem whN_step {n : Nat} {c : FT} {b : FS} {s s2 : List Sl} {p p1 p2 : PL} {o : Option Out} (hc : c s p = some (true, p1)) (hb : b s p1 = some (.nx s2 p2)) (h : whN n c b s2 p2 = o) : whN (n + 1) c b s p = o := by
  show (c s p).bind _ = o
  rw [hc]
  show (b s p1).bind _ = o
  rw [hb]
  exact h
theorem whN_end {n : Nat} {c : FT} {b : FS} {s : List Sl} {p p1 : PL} (hc : c s p = some (false, p1)) : whN (n + 1) c b s p = some (.nx s p1) := by
  show (c s p).bind _ = _
  rw [hc]
  rfl
theorem ev_bin {o : D → D → Option D} {fa fb : FE} {s : List Sl} {p p1 p2 : PL} {x y z : D} (ha : fa s p = some (x, p1)) (hb : fb s p1 = some (y, p2)) (ho : o x y = some z) : fBin o fa fb s p = some (z, p2) := by
  unfold fBin
  rw [ha]
  show (fb s p1).bind _ = _
  rw [hb]
  show (o x y).map _ = _
  rw [ho]
  rfl
theorem ev_un {o : D → Option D} {fa : FE} {s : List Sl} {p p1 : PL} {x z : D} (ha : fa s p = some (x, p1)) (ho : o x = some z) : fUn o fa s p = some (z, p1) := by
  unfold fUn
  rw [ha]
  show (o x).map _ = _
  rw [ho]
  rfl
theorem ev_cons {fa : FE} {fr : FA} {s : List Sl} {p p1 p2 : PL} {x : D} {xs : List D} (ha : fa s p = some (x, p1)) (hb : fr s p1 = some (xs, p2)) : fCons fa fr s p = some (x :: xs, p2) := by
  unfold fCons
  rw [ha]
  show (fr s p1).map _ = _
  rw [hb]
  rfl
theorem ev_call {S : List D → Option D} {fa : FA} {s : List Sl} {p p1 : PL} {xs : List D} {z : D} (ha : fa s p = some (xs, p1)) (hS : S xs = some z) : fCall S fa s p = some (z, p1) := by
  unfold fCall
  rw [ha]
  show (S xs).map _ = _
  rw [hS]
  rfl
theorem ev_callL {S : List D → Option (List D)} {fa : FA} {s : List Sl} {p p1 : PL} {xs : List D} {z : List D} (ha : fa s p = some (xs, p1)) (hS : S xs = some z) : fCallL S fa s p = some (z, p1) := by
  unfold fCallL
  rw [ha]
  show (S xs).map _ = _
  rw [hS]
  rfl
theorem ev_callP {i : Nat} {S : List D → Pool → Option (D × Pool)} {fa : FA} {s : List Sl} {p p1 p2 : PL} {xs : List D} {z : D} (hs : s[i]? = some .pl) (ha : fa s p = some (xs, p1)) (hS : S xs p1 = some (z, p2)) : fCallP i S fa s p = some (z, p2) := by
  unfold fCallP
  rw [hs]
  show (fa s p).bind _ = _
  rw [ha]
  exact hS
theorem ev_tup {fa : FA} {s : List Sl} {p p1 : PL} {xs : List D} (ha : fa s p = some (xs, p1)) : fTup fa s p = some (.tup xs, p1) := by
  unfold fTup
  rw [ha]
  rfl
theorem ev_lst {fa : FA} {s : List Sl} {p p1 : PL} {xs : List D} (ha : fa s p = some (xs, p1)) : fLst fa s p = some (.lst xs, p1) := by
  unfold fLst
  rw [ha]
  rfl
theorem ev_tst {fa : FE} {s : List Sl} {p p1 : PL} {b : Bool} (ha : fa s p = some (.bl b, p1)) : fTst fa s p = some (b, p1) := by
  unfold fTst
  rw [ha]
  rfl
theorem ev_thE {fe : FE} {s : List Sl} {p p1 : PL} {d : D} (h : fe (freeze s) p = some (d, p1)) (hi : d.imm = true) : thE fe s p = some (d, p1) := by
  unfold thE
  rw [h]
  show (if d.imm = true then _ else _) = _
  rw [if_pos hi]
theorem ev_thT {ft : FT} {s : List Sl} {p p1 : PL} {b : Bool} (h : ft (freeze s) p = some (b, p1)) : thT ft s p = some (b, p1) := h
theorem ev_seqOf {fe : FE} {s : List Sl} {p p1 : PL} {d : D} {ds : List D} (h : fe s p = some (d, p1)) (hd : seqOf d = some ds) : fSeq fe s p = some (ds, p1) := by
  unfold fSeq
  rw [h]
  show (seqOf d).map _ = _
  rw [hd]
  rfl
theorem ev_ifE {t : FT} {fa fb : FE} {s : List Sl} {p p1 : PL} {c : Bool} {o : Option (D × PL)} (h : t s p = some (c, p1)) (h1 : c = true → fa s p1 = o) (h2 : c = false → fb s p1 = o) : fIf t fa fb s p = o := by
  unfold fIf
  rw [h]
  show (if c = true then fa s p1 else fb s p1) = o
  cases c
  · exact h2 rfl
  · exact h1 rfl
theorem ev_and {t u : FT} {s : List Sl} {p p1 : PL} {c : Bool} {o : Option (Bool × PL)} (h : t s p = some (c, p1)) (h1 : c = true → u s p1 = o) (h2 : c = false → some (false, p1) = o) : fAnd t u s p = o := by
  unfold fAnd
  rw [h]
  show (if c = true then u s p1 else some (false, p1)) = o
  cases c
  · exact h2 rfl
  · exact h1 rfl
theorem ev_or {t u : FT} {s : List Sl} {p p1 : PL} {c : Bool} {o : Option (Bool × PL)} (h : t s p = some (c, p1)) (h1 : c = true → some (true, p1) = o) (h2 : c = false → u s p1 = o) : fOr t u s p = o := by
  unfold fOr
  rw [h]
  show (if c = true then some (true, p1) else u s p1) = o
  cases c
  · exact h2 rfl
  · exact h1 rfl
theorem ev_andV {fa fb : FE} {s : List Sl} {p p1 : PL} {c : Bool} {o : Option (D × PL)} (h : fa s p = some (.bl c, p1)) (h1 : c = true → fb s p1 = o) (h2 : c = false → some (.bl false, p1) = o) : fAndV fa fb s p = o := by
  unfold fAndV
  rw [h]
  cases c
  · exact h2 rfl
  · exact h1 rfl
theorem ev_lc {own : List Nat} {fi : FA} {g : FG} {t : FT} {e : FE} {s : List Sl} {p p1 : PL} {ds : List D} {o : Option (List D × PL)} (h : fi s p = some (ds, p1)) (ho : own.all (notOwn s) = true) (h2 : lcL g t e (wipeS s own) ds p1 = o) : fLc own fi g t e s p = o := by
  unfold fLc
  rw [h]
  show (if own.all (notOwn s) = true then _ else _) = o
  rw [if_pos ho]
  exact h2
/-- a comprehension without a condition -/
theorem lcL_map {g : FG} {e : FE} {s : List Sl} {p : PL} {α : Type} {mk : α → D} {f : α → D} : ∀ {xs : List α}, (∀ x ∈ xs, ∃ s1, g (mk x) s = some s1 ∧ e s1 p = some (f x, p)) → lcL g fYes e s (xs.map mk) p = some (xs.map f, p)
  | [], _ => rfl
  | x :: xs, h => by
    obtain ⟨s1, h1, h2⟩ := h x List.mem_cons_self
    show (g (mk x) s).bind _ = _
    rw [h1]
    show (e s1 p).bind _ = _
    rw [h2]
    show (lcL g fYes e s (xs.map mk) p).map _ = _
    rw [lcL_map fun y m => h y (List.mem_cons_of_mem _ m)]
    rfl
/-- with a condition -/
theorem lcL_filter {g : FG} {t : FT} {e : FE} {s : List Sl} {p : PL} {α : Type} {mk : α → D} {c : α → Bool} {f : α → D} : ∀ {xs : List α}, (∀ x ∈ xs, ∃ s1, g (mk x) s = some s1 ∧ t s1 p = some (c x, p) ∧ (c x = true → e s1 p = some (f x, p))) → lcL g t e s (xs.map mk) p = some ((xs.filter c).map f, p)
  | [], _ => rfl
  | x :: xs, h => by
    obtain ⟨s1, h1, h2, h3⟩ := h x List.mem_cons_self
    have ih := lcL_filter (xs := xs) fun y m => h y (List.mem_cons_of_mem _ m)
    show (g (mk x) s).bind _ = _
    rw [h1]
    show (t s1 p).bind _ = _
    rw [h2]
    show (if c x = true then _ else _) = _
    cases hc : c x
    · rw [if_neg (by simp), List.filter_cons_of_neg (by simp [hc])]
      exact ih
    · rw [if_pos rfl, List.filter_cons_of_pos hc]
      show (e s1 p).bind _ = _
      rw [h3 hc]
      show (lcL g t e s (xs.map mk) p).map _ = _
      rw [ih]
      rfl
theorem modD_pos {a b : Int} (h : 0 < b) : modD (.int a) (.int b) = some (.int (a % b)) := if_pos h
theorem divOk_of {b : Int} (h0 : 0 ≤ b) (h : b < 2 ^ 64) : divOk b = true := by
  unfold divOk
  refine decide_eq_true ?_
  by_cases hb : b.natAbs = 0
  · rw [hb]; decide
  · have : b.natAbs < 2 ^ 64 := by omega
    have := (Nat.log2_lt hb).mpr this
    omega
theorem divD_pos {a b : Int} (h : 0 < b) (h2 : b < 2 ^ 64) : divD (.int a) (.int b) = some (.int (a / b)) := if_pos ⟨h, divOk_of (by omega) h2⟩
theorem sml_of {a : Int} (h : -(2 ^ 64) < a) (h2 : a < 2 ^ 64) : sml a = true := by
  unfold sml
  rw [decide_eq_true h, decide_eq_true h2]
  rfl
theorem mulD_l {a b : Int} (h : sml a = true) : mulD (.int a) (.int b) = some (.int (a * b)) := if_pos (by unfold mulOk; rw [h]; rfl)
theorem mulD_r {a b : Int} (h : sml b = true) : mulD (.int a) (.int b) = some (.int (a * b)) := if_pos (by unfold mulOk; rw [h]; simp)
theorem imulD_l {a b : Int} (h : sml a = true) : imulD (.int a) (.int b) = some (.int (a * b)) := if_pos (by unfold mulOk; rw [h]; rfl)
theorem imulD_r {a b : Int} (h : sml b = true) : imulD (.int a) (.int b) = some (.int (a * b)) := if_pos (by unfold mulOk; rw [h]; simp)
theorem deq_int (a b : Int) : deq (.int a) (.int b) = decide (a = b) := by
  unfold deq D.py
  first
    | rfl
    | simp [PyData.eqv, BEq.beq]
theorem eqD_int (a b : Int) : eqD (.int a) (.int b) = some (.bl (decide (a = b))) := by
  unfold eqD
  rw [if_pos ⟨rfl, rfl⟩, deq_int]
theorem neD_int (a b : Int) : neD (.int a) (.int b) = some (.bl (!decide (a = b))) := by
  unfold neD
  rw [if_pos ⟨rfl, rfl⟩, deq_int]
end DL

namespace PG
open PySem PySem.Spec PyProof.Rows L2 DL
theorem bt_int : bootBuiltins "int" = some (.type "int") := by decide +kernel
theorem bt_tuple : bootBuiltins "tuple" = some (.type "tuple") := by decide +kernel
theorem bt_list : bootBuiltins "list" = some (.type "list") := by decide +kernel
theorem bt_len : bootBuiltins "len" = some (.builtin "len") := by decide +kernel
theorem bt_abs : bootBuiltins "abs" = some (.builtin "abs") := by decide +kernel
theorem bt_max : bootBuiltins "max" = some (.builtin "max") := by decide +kernel
theorem bt_min : bootBuiltins "min" = some (.builtin "min") := by decide +kernel
theorem bt_sum : bootBuiltins "sum" = some (.builtin "sum") := by decide +kernel
theorem bt_all : bootBuiltins "all" = some (.builtin "all") := by decide +kernel
theorem bt_any : bootBuiltins "any" = some (.builtin "any") := by decide +kernel
theorem bt_sorted : bootBuiltins "sorted" = some (.builtin "sorted") := by decide +kernel
abbrev N_plus : List Str := ["wheels", "one", "two", "a", "b", "number"]
def g_plus : FS := (xRet (fCall tupD (fCons (fLst (fLc [3, 4, 5] (fCallL zip3D (fCons (fV 1) (fCons (fV 2) (fCons (fV 0) fNil)))) (gT 3 (gConsD (gN 3) (gConsD (gN 4) (gConsD (gN 5) gNilD)))) fYes (fBin modD (fBin addD (fV 3) (fV 4)) (fV 5)))) fNil)))
instance noS_plus : NoS g_plus := by unfold g_plus; infer_instance
def S_plus : List D → Option D := SOf N_plus 3 g_plus
abbrev N_times_element : List Str := ["wheels", "k", "one", "a", "number"]
def g_times_element : FS := (xRet (fCall tupD (fCons (fLst (fLc [3, 4] (fCallL zip2D (fCons (fV 2) (fCons (fV 0) fNil))) (gT 2 (gConsD (gN 3) (gConsD (gN 4) gNilD))) fYes (fBin modD (fBin mulD (fV 1) (fV 3)) (fV 4)))) fNil)))
instance noS_times_element : NoS g_times_element := by unfold g_times_element; infer_instance
def S_times_element : List D → Option D := SOf N_times_element 3 g_times_element
abbrev N_nought : List Str := ["wheels"]
def g_nought : FS := (xRet (fBin mulD (fTup (fCons (fC (.int 0)) fNil)) (fCall lenD (fCons (fV 0) fNil))))
instance noS_nought : NoS g_nought := by unfold g_nought; infer_instance
def S_nought : List D → Option D := SOf N_nought 1 g_nought
abbrev N_shared : List Str := ["a", "b"]
def g_shared : FS := (xSeq (xWh (fTst (fBin neD (fV 1) (fC (.int 0))))
 (xPar 0 1 (fCons (fV 1) (fCons (fBin modD (fV 0) (fV 1)) fNil))))
 (xRet (fCall absD (fCons (fV 0) fNil))))
instance noS_shared : NoS g_shared := by unfold g_shared; infer_instance
def S_shared : List D → Option D := SOf N_shared 2 g_shared
abbrev N_order_of : List Str := ["wheels", "one", "found", "a", "number", "part"]
def g_order_of : FS := (xSeq (xSet 2 (fC (.int 1)))
 (xSeq (xFor (fCallL zip2D (fCons (fV 1) (fCons (fV 0) fNil))) (gT 2 (gConsD (gN 3) (gConsD (gN 4) gNilD)))
 (xSeq (xSet 5 (fBin divD (fV 4) (fCall S_shared (fCons (fV 3) (fCons (fV 4) fNil)))))
 (xSet 2 (fBin divD (fBin mulD (fV 2) (fV 5)) (fCall S_shared (fCons (fV 2) (fCons (fV 5) fNil)))))))
 (xRet (fV 2))))
instance noS_order_of : NoS g_order_of := by unfold g_order_of; infer_instance
def S_order_of : List D → Option D := SOf N_order_of 2 g_order_of
abbrev N_exponent_of : List Str := ["wheels"]
def g_exponent_of : FS := (xRet (fIf (fTst (fBin gtD (fCall lenD (fCons (fV 0) fNil)) (fC (.int 0)))) (fBin ixD (fV 0) (fUn negD (fC (.int 1)))) (fC (.int 1))))
instance noS_exponent_of : NoS g_exponent_of := by unfold g_exponent_of; infer_instance
def S_exponent_of : List D → Option D := SOf N_exponent_of 1 g_exponent_of
abbrev N_made_by : List Str := ["wheels", "items", "found", "seen", "at", "one", "other"]
def g_made_by : FS := (xSeq (xOwn 2 (fCons (fCall S_nought (fCons (fV 0) fNil)) fNil))
 (xSeq (xDisp1 3 (thE (fBin ixD (fV 2) (fC (.int 0)))) (fC (.bl true)))
 (xSeq (xSet 4 (fC (.int 0)))
 (xSeq (xWh (thT (fTst (fBin ltD (fV 4) (fCall lenD (fCons (fV 2) fNil)))))
 (xSeq (xFor (fSeq (fV 1)) (gN 5)
 (xSeq (xSet 6 (thE (fCall S_plus (fCons (fV 0) (fCons (fBin ixD (fV 2) (fV 4)) (fCons (fV 5) fNil))))))
 (xIf (fDIn 3 true (fV 6))
 (xSeq (xDPut 3 (fV 6) (fC (.bl true)))
 (xApp 2 (fV 6)))
 xNx)))
 (xAug 4 (i2 fun a b => a + b) (fC (.int 1)))))
 (xRetTh (fCall tupD (fCons (fLst (fCallL sortRD (fCons (fV 2) fNil))) fNil)))))))
instance noS_made_by : NoS g_made_by := by unfold g_made_by; infer_instance
def S_made_by : List D → Option D := SOf N_made_by 2 g_made_by
abbrev N_prime_factors : List Str := ["n", "found", "p"]
def g_prime_factors : FS := (xSeq (xOwn 1 fNil)
 (xSeq (xSet 2 (fC (.int 2)))
 (xSeq (xWh (fTst (fBin gtD (fV 0) (fC (.int 1))))
 (xSeq (xIf (fTst (fBin eqD (fBin modD (fV 0) (fV 2)) (fC (.int 0))))
 (xSeq (xApp 1 (fV 2))
 (xWh (fTst (fBin eqD (fBin modD (fV 0) (fV 2)) (fC (.int 0))))
 (xAug 0 divD (fV 2))))
 xNx)
 (xAug 2 (i2 fun a b => a + b) (fC (.int 1)))))
 (xRetTh (fV 1)))))
instance noS_prime_factors : NoS g_prime_factors := by unfold g_prime_factors; infer_instance
def S_prime_factors : List D → Option D := SOf N_prime_factors 1 g_prime_factors
abbrev N_part_for : List Str := ["number", "p", "found"]
def g_part_for : FS := (xSeq (xSet 2 (fC (.int 1)))
 (xSeq (xWh (fTst (fBin eqD (fBin modD (fV 0) (fBin mulD (fV 2) (fV 1))) (fC (.int 0))))
 (xAug 2 imulD (fV 1)))
 (xRet (fV 2))))
instance noS_part_for : NoS g_part_for := by unfold g_part_for; infer_instance
def S_part_for : List D → Option D := SOf N_part_for 2 g_part_for
abbrev N__law_pool : List Str := ["script", "salt", "cell"]
def g__law_pool : List Sl → PL → Option (List D × PL) := (nSeq (xSet 1 (fC (.int 7)))
 (nSeq (xFor (fSeq (fLst (fSlL (fV 0) fNoPart (fPart (fC (.int 63)))))) (gN 2)
 (xSet 1 (fBin modD (fCall intD (fCons (fBin addD (fBin mulD (fV 1) (fC (.int 31))) (fV 2)) fNil)) (fC (.int 1000003)))))
 (fCons (fLst (fCallL listD (fCons (fV 0) fNil))) (fCons (fC (.int 0)) (fCons (fC (.int 0)) (fCons (fC (.int 0)) (fCons (fV 1) fNil)))))))
def S__law_pool : List D → Option Pool := SNOf N__law_pool 1 g__law_pool
abbrev N__law_spread : List Str := ["cell", "mixed", "total", "k"]
def g__law_spread : FS := (xSeq (xSet 1 (fBin modD (fCall intD (fCons (fV 0) fNil)) (fC (.int 2147483647))))
 (xSeq (xSet 2 (fC (.int 1)))
 (xSeq (xFor (fCallL rng1 (fCons (fC (.int 4)) fNil)) (gN 3)
 (xSeq (xSet 1 (fBin modD (fCall intD (fCons (fBin addD (fBin addD (fBin mulD (fV 1) (fC (.int 48271))) (fC (.int 12345))) (fV 3)) fNil)) (fC (.int 2147483647))))
 (xSet 2 (fBin addD (fBin mulD (fV 2) (fC (.int 2147483647))) (fV 1)))))
 (xRet (fV 2)))))
instance noS__law_spread : NoS g__law_spread := by unfold g__law_spread; infer_instance
def S__law_spread : List D → Option D := SOf N__law_spread 1 g__law_spread
abbrev N__law_draw : List Str := ["pool", "many", "cell", "mixed", "value"]
def g__law_draw : FS := (xSeq (xIf (fAnd (fTst (fBin leD (fPool 0 2) (fC (.int 0)))) (fTst (fBin ltD (fPool 0 1) (fCall lenD (fCons (fPool 0 0) fNil)))))
 (xSeq (xSet 2 (fBin ixD (fPool 0 0) (fPool 0 1)))
 (xSeq (xPoolSet 0 1 (fBin addD (fPool 0 1) (fC (.int 1))))
 (xSeq (xPoolSet 0 2 (fV 2))
 (xIf (fTst (fBin ltD (fV 2) (fC (.int 1000000000000000000))))
 (xPoolSet 0 2 (fCall S__law_spread (fCons (fV 2) fNil)))
 xNx))))
 xNx)
 (xSeq (xPoolSet 0 3 (fBin addD (fPool 0 3) (fC (.int 1))))
 (xSeq (xIf (fTst (fBin leD (fPool 0 2) (fC (.int 0))))
 (xSeq (xSet 3 (fBin modD (fCall intD (fCons (fBin addD (fBin addD (fBin mulD (fPool 0 4) (fC (.int 48271))) (fBin mulD (fPool 0 3) (fC (.int 69621)))) (fC (.int 1))) fNil)) (fC (.int 2147483647))))
 (xSeq (xSet 3 (fBin modD (fCall intD (fCons (fBin addD (fBin mulD (fV 3) (fC (.int 16807))) (fPool 0 3)) fNil)) (fC (.int 2147483629))))
 (xRet (fBin modD (fBin divD (fV 3) (fC (.int 5))) (fV 1)))))
 xNx)
 (xSeq (xSet 4 (fBin modD (fCall intD (fCons (fPool 0 2) fNil)) (fV 1)))
 (xSeq (xPoolSet 0 2 (fBin divD (fPool 0 2) (fV 1)))
 (xRet (fV 4)))))))
def S__law_draw : List D → Pool → Option (D × Pool) := SPOf N__law_draw 1 g__law_draw
abbrev N__law_pick : List Str := ["pool", "items"]
def g__law_pick : FS := (xRet (fBin ixD (fV 1) (fCallP 0 S__law_draw (fCons (fCall lenD (fCons (fV 1) fNil)) fNil))))
def S__law_pick : List D → Pool → Option (D × Pool) := SPOf N__law_pick 1 g__law_pick
abbrev N__law_shared : List Str := ["a", "b"]
def g__law_shared : FS := (xSeq (xWh (fTst (fBin neD (fV 1) (fC (.int 0))))
 (xPar 0 1 (fCons (fV 1) (fCons (fBin modD (fCall intD (fCons (fV 0) fNil)) (fCall intD (fCons (fV 1) fNil))) fNil))))
 (xRet (fCall absD (fCons (fV 0) fNil))))
instance noS__law_shared : NoS g__law_shared := by unfold g__law_shared; infer_instance
def S__law_shared : List D → Option D := SOf N__law_shared 2 g__law_shared
abbrev N__law_falling : List Str := ["n", "most", "found", "first", "rest"]
def g__law_falling (S : List D → Option D) : FS := (xSeq (xIf (fTst (fBin eqD (fV 0) (fC (.int 0))))
 (xRet (fLst (fCons (fTup fNil) fNil)))
 xNx)
 (xSeq (xSet 2 (fLst fNil))
 (xSeq (xFor (fCallL rng3 (fCons (fCall min2D (fCons (fV 0) (fCons (fV 1) fNil))) (fCons (fC (.int 0)) (fCons (fUn negD (fC (.int 1))) fNil)))) (gN 3)
 (xSet 2 (fLst (fCat (fV 2) (fLst (fLc [4] (fSeq (fCall S (fCons (fBin subD (fV 0) (fV 3)) (fCons (fV 3) fNil)))) (gN 4) fYes (fBin addD (fTup (fCons (fV 3) fNil)) (fV 4))))))))
 (xRet (fV 2)))))
def S__law_falling : Nat → List D → Option D
  | 0 => fun _ => none
  | m + 1 => SOf N__law_falling 2 (g__law_falling (S__law_falling m))
instance noS__law_falling (S : List D → Option D) : NoS (g__law_falling S) := by unfold g__law_falling; infer_instance
abbrev N__law_wheels_with : List Str := ["n", "rows", "m", "p", "many", "longer", "row", "steps", "numbers", "k", "number", "power", "step"]
def g__law_wheels_with : FS := (xSeq (xSet 1 (fLst (fCons (fTup fNil) fNil)))
 (xSeq (xSet 2 (fV 0))
 (xSeq (xSet 3 (fC (.int 2)))
 (xSeq (xWh (fTst (fBin gtD (fV 2) (fC (.int 1))))
 (xSeq (xSet 4 (fC (.int 0)))
 (xSeq (xWh (fTst (fBin eqD (fBin modD (fCall intD (fCons (fV 2) fNil)) (fV 3)) (fC (.int 0))))
 (xSeq (xSet 2 (fBin divD (fV 2) (fV 3)))
 (xSet 4 (fBin addD (fV 4) (fC (.int 1))))))
 (xSeq (xOwn 5 fNil)
 (xSeq (xFor (fSeq (fV 1)) (gN 6)
 (xFor (fSeq (fCall (S__law_falling 12) (fCons (fV 4) (fCons (fV 4) fNil)))) (gN 7)
 (xSeq (xOwn 8 fNil)
 (xSeq (xFor (fCallL rng1 (fCons (fCall max2D (fCons (fCall lenD (fCons (fV 6) fNil)) (fCons (fCall lenD (fCons (fV 7) fNil)) fNil))) fNil)) (gN 9)
 (xSeq (xSet 10 (fIf (fTst (fBin ltD (fV 9) (fCall lenD (fCons (fV 6) fNil)))) (fBin ixD (fV 6) (fBin subD (fBin subD (fCall lenD (fCons (fV 6) fNil)) (fC (.int 1))) (fV 9))) (fC (.int 1))))
 (xSeq (xSet 11 (fC (.int 1)))
 (xSeq (xFor (fCallL rng1 (fCons (fIf (fTst (fBin ltD (fV 9) (fCall lenD (fCons (fV 7) fNil)))) (fBin ixD (fV 7) (fV 9)) (fC (.int 0))) fNil)) (gN 12)
 (xSet 11 (fBin mulD (fV 11) (fV 3))))
 (xApp 8 (fBin mulD (fV 10) (fV 11)))))))
 (xApp 5 (thE (fCall tupD (fCons (fLst (fRevL (fV 8))) fNil))))))))
 (xSeq (xMove 5 1)
 (xSet 3 (fBin addD (fV 3) (fC (.int 1))))))))))
 (xRet (fLst (fCallL sortRD (fCons (fV 1) fNil))))))))
instance noS__law_wheels_with : NoS g__law_wheels_with := by unfold g__law_wheels_with; infer_instance
def S__law_wheels_with : List D → Option D := SOf N__law_wheels_with 1 g__law_wheels_with
abbrev N__law_wheels : List Str := ["pool", "most"]
def g__law_wheels : FS := (xRet (fCallP 0 S__law_pick (fCons (fCall S__law_wheels_with (fCons (fBin addD (fC (.int 1)) (fCallP 0 S__law_draw (fCons (fV 1) fNil))) fNil)) fNil)))
def S__law_wheels : List D → Pool → Option (D × Pool) := SPOf N__law_wheels 1 g__law_wheels
abbrev N__law_all : List Str := ["wheels", "rows", "number", "longer", "row", "x"]
def g__law_all : FS := (xSeq (xSet 1 (fLst (fCons (fTup fNil) fNil)))
 (xSeq (xFor (fSeq (fV 0)) (gN 2)
 (xSeq (xSet 3 (fLst fNil))
 (xSeq (xFor (fSeq (fV 1)) (gN 4)
 (xSet 3 (fLst (fCat (fV 3) (fLst (fLc [5] (fCallL rng1 (fCons (fV 2) fNil)) (gN 5) fYes (fBin addD (fV 4) (fTup (fCons (fV 5) fNil)))))))))
 (xSet 1 (fV 3)))))
 (xRet (fV 1))))
instance noS__law_all : NoS g__law_all := by unfold g__law_all; infer_instance
def S__law_all : List D → Option D := SOf N__law_all 1 g__law_all
end PG

namespace PG
open PySem L2 DL
theorem sof_rt {N : List Str} {n : Nat} {g : FS} {ds : List D} {d : D} {p : PL} (hl : ds.length = n) (h : g (st0 N ds) p0 = some (.rt d p)) : SOf N n g ds = some d := by
  unfold SOf
  rw [if_pos hl, h]
  rfl
theorem spof_rt {N : List Str} {n : Nat} {g : FS} {ds : List D} {d : D} {p q : PL} (hl : ds.length = n) (h : g (stP N ds) p = some (.rt d q)) : SPOf N n g ds p = some (d, q) := by
  unfold SPOf
  rw [if_pos hl, h]
theorem pool_salt (xs : List Int) : ∀ (r c : Sl) (z : Int) (d : D), ∃ (c' : Sl) (z' : Int), forL (gN 2) (xSet 1 (fBin modD (fCall intD (fCons (fBin addD (fBin mulD (fV 1) (fC (.int 31))) (fV 2)) fNil)) (fC (.int 1000003)))) (xs.map D.int) [.fz d, .fz (.int z), c] p0 = some (.nx [.fz d, .fz (.int z'), c'] p0) := by
  induction xs with
  | nil => exact fun r c z d => ⟨c, z, rfl⟩
  | cons x xs ih =>
    intro r c z d
    obtain ⟨c', z', h⟩ := ih r (.fz (.int x)) ((z * 31 + x) % 1000003) d
    refine ⟨c', z', forL_cons (s1 := [.fz d, .fz (.int z), .fz (.int x)]) (s2 := [.fz d, .fz (.int ((z * 31 + x) % 1000003)), .fz (.int x)]) rfl ?_ h⟩
    exact ev_set (ev_bin (ev_call (ev_cons (ev_bin (ev_bin rfl rfl (mulD_r (by decide))) rfl rfl) rfl) rfl) rfl (modD_pos (by omega))) (by show 1 < 3; omega)
theorem cutD_map {α : Type} (f : α → D) (xs : List α) (lo hi : Option Int) : ∃ ys : List α, cutD (xs.map f) lo hi = ys.map f ∧ ys.length ≤ xs.length := by
  refine ⟨(xs.drop (HT.sIx (xs.map f).length 0 lo)).take (HT.sIx (xs.map f).length (xs.map f).length hi - HT.sIx (xs.map f).length 0 lo), ?_, ?_⟩
  · unfold cutD
    rw [← List.map_drop, ← List.map_take]
  · rw [List.length_take, List.length_drop]
    omega
theorem pool_ok {ns : List Int} (h : ns.length ≤ 63) : ∃ P, S__law_pool [.ro (ns.map .int)] = some P ∧ 0 ≤ P.a := by
  obtain ⟨ys, hy, _⟩ := cutD_map D.int ns none (some 63)
  obtain ⟨c', z', hs⟩ := pool_salt ys .no .no 7 (.ro (ns.map .int))
  refine ⟨⟨ns, 0, 0, 0, z'⟩, ?_, Int.le_refl 0⟩
  have e0 : g__law_pool (st0 N__law_pool [.ro (ns.map .int)]) p0 = some ([.lst (ns.map .int), .int 0, .int 0, .int 0, .int z'], p0) := by
    have f1 : xSet 1 (fC (.int 7)) (st0 N__law_pool [.ro (ns.map .int)]) p0 = some (.nx [.fz (.ro (ns.map .int)), .fz (.int 7), .no] p0) := rfl
    have f2 : fSeq (fLst (fSlL (fV 0) fNoPart (fPart (fC (.int 63))))) [.fz (.ro (ns.map .int)), .fz (.int 7), .no] p0 = some (ys.map .int, p0) := by
      rw [← hy]
      rfl
    show nSeq (xSet 1 (fC (.int 7))) _ _ _ = _
    unfold nSeq
    rw [f1]
    show (xFor _ _ _ _ _).bind _ = _
    rw [ev_for f2 hs]
    rfl
  unfold S__law_pool SNOf
  rw [if_pos (show [D.ro (List.map D.int ns)].length = 1 from rfl), e0]
  rw [Option.bind_some]
  show (ints? (ns.map .int)).map _ = _
  rw [ints?_map]
  rfl
/-- spread of a cell -/
theorem spread_loop (c : D) (ks : List Int) : ∀ (x y : Int) (r : Sl), ∃ (x' y' : Int) (r' : Sl), forL (gN 3) (xSeq (xSet 1 (fBin modD (fCall intD (fCons (fBin addD (fBin addD (fBin mulD (fV 1) (fC (.int 48271))) (fC (.int 12345))) (fV 3)) fNil)) (fC (.int 2147483647))))
    (xSet 2 (fBin addD (fBin mulD (fV 2) (fC (.int 2147483647))) (fV 1)))) (ks.map D.int) [.fz c, .fz (.int x), .fz (.int y), r] p0 = some (.nx [.fz c, .fz (.int x'), .fz (.int y'), r'] p0) := by
  induction ks with
  | nil => exact fun x y r => ⟨x, y, r, rfl⟩
  | cons k ks ih =>
    intro x y r
    obtain ⟨x', y', r', h⟩ := ih ((x * 48271 + 12345 + k) % 2147483647) (y * 2147483647 + (x * 48271 + 12345 + k) % 2147483647) (.fz (.int k))
    refine ⟨x', y', r', forL_cons (s1 := [.fz c, .fz (.int x), .fz (.int y), .fz (.int k)]) (p2 := p0) rfl ?_ h⟩
    exact ev_seq (p1 := p0) (s1 := [.fz c, .fz (.int ((x * 48271 + 12345 + k) % 2147483647)), .fz (.int y), .fz (.int k)]) (ev_set (ev_bin (ev_call (ev_cons (ev_bin (ev_bin (ev_bin rfl rfl (mulD_r (by decide))) rfl rfl) rfl rfl) rfl) rfl) rfl (modD_pos (by omega))) (by show 1 < 4; omega))
      (ev_set (ev_bin (ev_bin rfl rfl (mulD_r (by decide))) rfl rfl) (by show 2 < 4; omega))
theorem spread_ok (c : Int) : ∃ z, S__law_spread [.int c] = some (.int z) := by
  obtain ⟨x', y', r', h⟩ := spread_loop (.int c) [0, 1, 2, 3] (c % 2147483647) 1 .no
  refine ⟨y', sof_rt (p := p0) rfl ?_⟩
  refine ev_seq (s1 := [.fz (.int c), .fz (.int (c % 2147483647)), .no, .no]) (p1 := p0) (ev_set (ev_bin rfl rfl (modD_pos (by omega))) (by show 1 < 4; omega)) ?_
  refine ev_seq (s1 := [.fz (.int c), .fz (.int (c % 2147483647)), .fz (.int 1), .no]) (p1 := p0) rfl ?_
  exact ev_seq (p1 := p0) (ev_for (ds := [.int 0, .int 1, .int 2, .int 3]) (p1 := p0) rfl h) (ev_ret rfl)
theorem ixN_pos {n : Nat} {a : Int} (h0 : 0 ≤ a) (h1 : a < n) : ixN n a = some a.toNat := by
  unfold ixN
  rw [if_pos h0, if_pos h1]
theorem atI_pos {α : Type} {xs : List α} {a : Int} (h0 : 0 ≤ a) (h1 : a < xs.length) : atI xs a = xs[a.toNat]? := by
  unfold atI
  rw [ixN_pos h0 h1]
  rfl
theorem atI_int {xs : List Int} {a : Int} (h0 : 0 ≤ a) (h1 : a < xs.length) : ∃ c, atI (xs.map D.int) a = some (.int c) := by
  have hl : a.toNat < xs.length := by omega
  refine ⟨xs[a.toNat], ?_⟩
  rw [atI_pos h0 (by rw [List.length_map]; exact h1), List.getElem?_map, List.getElem?_eq_getElem hl]
  rfl
abbrev sD (m : Int) (c x v : Sl) : List Sl := [.pl, .fz (.int m), c, x, v]
/-- the first block of draw: a new cell may be taken -/
theorem draw_cell {P : Pool} {m : Int} (hP : 0 ≤ P.a) : ∃ c P1, (xIf (fAnd (fTst (fBin leD (fPool 0 2) (fC (.int 0)))) (fTst (fBin ltD (fPool 0 1) (fCall lenD (fCons (fPool 0 0) fNil)))))
    (xSeq (xSet 2 (fBin ixD (fPool 0 0) (fPool 0 1)))
    (xSeq (xPoolSet 0 1 (fBin addD (fPool 0 1) (fC (.int 1))))
    (xSeq (xPoolSet 0 2 (fV 2))
    (xIf (fTst (fBin ltD (fV 2) (fC (.int 1000000000000000000))))
    (xPoolSet 0 2 (fCall S__law_spread (fCons (fV 2) fNil)))
    xNx))))
    xNx) (sD m .no .no .no) P = some (.nx (sD m c .no .no) P1) ∧ 0 ≤ P1.a := by
  by_cases h1 : P.b ≤ 0 ∧ P.a < P.ns.length
  · obtain ⟨c, hc⟩ := atI_int hP h1.2
    have t : (fAnd (fTst (fBin leD (fPool 0 2) (fC (.int 0)))) (fTst (fBin ltD (fPool 0 1) (fCall lenD (fCons (fPool 0 0) fNil))))) (sD m .no .no .no) P = some (true, P) := by
      refine ev_and (c := true) (p1 := P) ?_ (fun _ => ?_) (fun z => by cases z)
      · show some (decide (P.b ≤ 0), P) = _
        rw [decide_eq_true h1.1]
      · show some (decide (P.a < ((P.ns.map D.int).length : Int)), P) = _
        rw [List.length_map, decide_eq_true h1.2]
    have s1 : xSet 2 (fBin ixD (fPool 0 0) (fPool 0 1)) (sD m .no .no .no) P = some (.nx (sD m (.fz (.int c)) .no .no) P) := ev_set (ev_bin rfl rfl hc) (by show 2 < 5; omega)
    by_cases h2 : c < 1000000000000000000
    · obtain ⟨z, hz⟩ := spread_ok c
      refine ⟨.fz (.int c), { P with a := P.a + 1, b := z }, ev_ifT t (ev_seq s1 (ev_seq (s1 := sD m (.fz (.int c)) .no .no) (p1 := { P with a := P.a + 1 }) rfl (ev_seq (s1 := sD m (.fz (.int c)) .no .no) (p1 := { P with a := P.a + 1, b := c }) rfl (ev_ifT (p1 := { P with a := P.a + 1, b := c }) ?_ ?_)))), by show 0 ≤ P.a + 1; omega⟩
      · show some (decide (c < 1000000000000000000), _) = _
        rw [decide_eq_true h2]
      · have e : fCall S__law_spread (fCons (fV 2) fNil) (sD m (.fz (.int c)) .no .no) { P with a := P.a + 1, b := c } = some (.int z, { P with a := P.a + 1, b := c }) := ev_call rfl hz
        show (fCall S__law_spread (fCons (fV 2) fNil) (sD m (.fz (.int c)) .no .no) { P with a := P.a + 1, b := c }).bind _ = _
        rw [e]
        rfl
    · refine ⟨.fz (.int c), { P with a := P.a + 1, b := c }, ev_ifT t (ev_seq s1 (ev_seq (s1 := sD m (.fz (.int c)) .no .no) (p1 := { P with a := P.a + 1 }) rfl (ev_seq (s1 := sD m (.fz (.int c)) .no .no) (p1 := { P with a := P.a + 1, b := c }) rfl (ev_ifF (p1 := { P with a := P.a + 1, b := c }) ?_ rfl)))), by show 0 ≤ P.a + 1; omega⟩
      show some (decide (c < 1000000000000000000), _) = _
      rw [decide_eq_false h2]
  · refine ⟨.no, P, ev_ifF (p1 := P) ?_ rfl, hP⟩
    by_cases h2 : P.b ≤ 0
    · refine ev_and (c := true) (p1 := P) ?_ (fun _ => ?_) (fun z => by cases z)
      · show some (decide (P.b ≤ 0), P) = _
        rw [decide_eq_true h2]
      · show some (decide (P.a < ((P.ns.map D.int).length : Int)), P) = _
        rw [List.length_map, decide_eq_false (fun z => h1 ⟨h2, z⟩)]
    · refine ev_and (c := false) (p1 := P) ?_ (fun z => by cases z) (fun _ => rfl)
      show some (decide (P.b ≤ 0), P) = _
      rw [decide_eq_false h2]
theorem draw_ok {P : Pool} {m : Int} (h0 : 0 < m) (h1 : m < 2 ^ 64) (hP : 0 ≤ P.a) : ∃ v P', S__law_draw [.int m] P = some (.int v, P') ∧ 0 ≤ v ∧ v < m ∧ 0 ≤ P'.a := by
  obtain ⟨c, P1, e1, hP1⟩ := draw_cell (m := m) hP
  have e2 : xPoolSet 0 3 (fBin addD (fPool 0 3) (fC (.int 1))) (sD m c .no .no) P1 = some (.nx (sD m c .no .no) { P1 with c := P1.c + 1 }) := rfl
  by_cases hb : P1.b ≤ 0
  · have e3 : fTst (fBin leD (fPool 0 2) (fC (.int 0))) (sD m c .no .no) { P1 with c := P1.c + 1 } = some (true, { P1 with c := P1.c + 1 }) := by
      show some (decide (P1.b ≤ 0), _) = _
      rw [decide_eq_true hb]
    refine ⟨((((P1.salt * 48271 + (P1.c + 1) * 69621 + 1) % 2147483647) * 16807 + (P1.c + 1)) % 2147483629) / 5 % m, { P1 with c := P1.c + 1 }, spof_rt rfl (ev_seq e1 (ev_seq e2 (ev_seq_rt (ev_ifT e3 ?_)))), Int.emod_nonneg _ (by omega), Int.emod_lt_of_pos _ h0, hP1⟩
    refine ev_seq (s1 := sD m c (.fz (.int ((P1.salt * 48271 + (P1.c + 1) * 69621 + 1) % 2147483647))) .no) (p1 := { P1 with c := P1.c + 1 }) (ev_set (ev_bin (ev_call (ev_cons (ev_bin (ev_bin (ev_bin rfl rfl (mulD_r (by decide))) (ev_bin rfl rfl (mulD_r (by decide))) rfl) rfl rfl) rfl) rfl) rfl (modD_pos (by omega))) (by show 3 < 5; omega)) ?_
    refine ev_seq (s1 := sD m c (.fz (.int ((((P1.salt * 48271 + (P1.c + 1) * 69621 + 1) % 2147483647) * 16807 + (P1.c + 1)) % 2147483629))) .no) (p1 := { P1 with c := P1.c + 1 }) (ev_set (ev_bin (ev_call (ev_cons (ev_bin (ev_bin rfl rfl (mulD_r (by decide))) rfl rfl) rfl) rfl) rfl (modD_pos (by omega))) (by show 3 < 5; omega)) ?_
    exact ev_ret (ev_bin (ev_bin rfl rfl (divD_pos (by omega) (by omega))) rfl (modD_pos h0))
  · have e3 : fTst (fBin leD (fPool 0 2) (fC (.int 0))) (sD m c .no .no) { P1 with c := P1.c + 1 } = some (false, { P1 with c := P1.c + 1 }) := by
      show some (decide (P1.b ≤ 0), _) = _
      rw [decide_eq_false hb]
    refine ⟨P1.b % m, { P1 with c := P1.c + 1, b := P1.b / m }, spof_rt rfl (ev_seq e1 (ev_seq e2 (ev_seq (ev_ifF e3 rfl) ?_))), Int.emod_nonneg _ (by omega), Int.emod_lt_of_pos _ h0, hP1⟩
    refine ev_seq (s1 := sD m c .no (.fz (.int (P1.b % m)))) (p1 := { P1 with c := P1.c + 1 }) (ev_set (ev_bin rfl rfl (modD_pos h0)) (by show 4 < 5; omega)) ?_
    refine ev_seq (s1 := sD m c .no (.fz (.int (P1.b % m)))) (p1 := { P1 with c := P1.c + 1, b := P1.b / m }) ?_ rfl
    have e : fBin divD (fPool 0 2) (fV 1) (sD m c .no (.fz (.int (P1.b % m)))) { P1 with c := P1.c + 1 } = some (.int (P1.b / m), { P1 with c := P1.c + 1 }) := ev_bin rfl rfl (divD_pos h0 h1)
    show (fBin divD (fPool 0 2) (fV 1) (sD m c .no (.fz (.int (P1.b % m)))) { P1 with c := P1.c + 1 }).bind _ = _
    rw [e]
    rfl
end PG

namespace PG
open PySem L2 DL
theorem sof_succ {N : List Str} {n : Nat} {g : FS} {ds : List D} {d : D} {p : PL} (hl : ds.length = n) (h : g (st0 N ds) p0 = some (.rt d p)) : SOf N n g ds = some d := sof_rt hl h
def dn : Nat → List Int
  | 0 => []
  | f + 1 => ((f : Int) + 1) :: dn f
theorem rngDn_dn : ∀ f : Nat, rngDn (f : Int) f = (dn f).map D.int
  | 0 => rfl
  | f + 1 => by
    have ih := rngDn_dn f
    unfold rngDn at ih ⊢
    rw [List.range_succ_eq_map, List.map_cons, List.map_map]
    have e0 : D.int (((f + 1 : Nat) : Int) + ((0 : Nat) : Int) * (-1)) = D.int ((f : Int) + 1) := by
      have : ((f + 1 : Nat) : Int) + ((0 : Nat) : Int) * (-1) = (f : Int) + 1 := by omega
      rw [this]
    show D.int _ :: _ = D.int _ :: _
    refine congr (congrArg List.cons e0) ?_
    · rw [show List.map D.int (dn f) = _ from ih.symm]
      refine List.map_congr_left fun k _ => ?_
      show D.int _ = D.int _
      congr 1
      simp only [Nat.succ_eq_add_one]
      push_cast
      omega
/-- a parting of n, no part above most -/
structure PartOk (n most : Int) (r : List Int) : Prop where
  pos : ∀ x ∈ r, 1 ≤ x ∧ x ≤ most
  fall : r.Pairwise fun a b => b ≤ a
  sum : r.sum = n
theorem PartOk.len {n most : Int} {r : List Int} (h : PartOk n most r) : (r.length : Int) ≤ n := by
  obtain ⟨h1, _, h3⟩ := h
  have : ∀ r : List Int, (∀ x ∈ r, 1 ≤ x ∧ x ≤ most) → (r.length : Int) ≤ r.sum := by
    intro r
    induction r with
    | nil => intro _; simp
    | cons a r ih =>
      intro h
      have := ih fun x m => h x (List.mem_cons_of_mem _ m)
      have h2 := (h a List.mem_cons_self).1
      rw [List.sum_cons, List.length_cons]
      push_cast
      omega
  rw [← h3]
  exact this r h1
abbrev bFall (S : List D → Option D) : FS := xSet 2 (fLst (fCat (fV 2) (fLst (fLc [4] (fSeq (fCall S (fCons (fBin subD (fV 0) (fV 3)) (fCons (fV 3) fNil)))) (gN 4) fYes (fBin addD (fTup (fCons (fV 3) fNil)) (fV 4))))))
theorem fall_step {S : List D → Option D} {n most f : Int} {found rows : List (List Int)} (hS : S [.int (n - f), .int f] = some (.lst (rows.map tupI))) (hr : ∀ r ∈ rows, r.length ≤ 1000) (hl : found.length + rows.length ≤ 1000000) :
    bFall S [.fz (.int n), .fz (.int most), .fz (.lst (found.map tupI)), .fz (.int f), .no] p0 = some (.nx [.fz (.int n), .fz (.int most), .fz (.lst ((found ++ rows.map (f :: ·)).map tupI)), .fz (.int f), .no] p0) := by
  have e1 : fLc [4] (fSeq (fCall S (fCons (fBin subD (fV 0) (fV 3)) (fCons (fV 3) fNil)))) (gN 4) fYes (fBin addD (fTup (fCons (fV 3) fNil)) (fV 4)) [.fz (.int n), .fz (.int most), .fz (.lst (found.map tupI)), .fz (.int f), .no] p0 = some (rows.map fun r => tupI (f :: r), p0) := by
    refine ev_lc (p1 := p0) (ds := rows.map tupI) (ev_seqOf (ev_call (p1 := p0) rfl hS) rfl) rfl ?_
    refine lcL_map fun r m => ⟨[.fz (.int n), .fz (.int most), .fz (.lst (found.map tupI)), .fz (.int f), .fz (tupI r)], rfl, ev_bin (x := .tup [.int f]) (p1 := p0) rfl rfl ?_⟩
    show (if [D.int f].length + (r.map D.int).length ≤ 1000000 then some (D.tup ([D.int f] ++ r.map D.int)) else none) = _
    rw [if_pos (by have := hr r m; simp; omega)]
    rfl
  have e2 : fCat (fV 2) (fLst (fLc [4] (fSeq (fCall S (fCons (fBin subD (fV 0) (fV 3)) (fCons (fV 3) fNil)))) (gN 4) fYes (fBin addD (fTup (fCons (fV 3) fNil)) (fV 4)))) [.fz (.int n), .fz (.int most), .fz (.lst (found.map tupI)), .fz (.int f), .no] p0 = some (found.map tupI ++ rows.map fun r => tupI (f :: r), p0) := by
    unfold fCat
    show (fLst _ _ _).bind _ = _
    rw [ev_lst e1]
    show (if (found.map tupI).length + (rows.map fun r => tupI (f :: r)).length ≤ 1000000 then _ else _) = _
    rw [if_pos (by rw [List.length_map, List.length_map]; exact hl)]
  have e3 := ev_set (i := 2) (ev_lst e2) (by show 2 < 5; omega)
  rw [show bFall S = xSet 2 _ from rfl, e3, List.map_append, List.map_map]
  rfl
theorem two_pow_step {n f : Nat} (h : f + 1 ≤ n) : 2 ^ (n - f) = 2 ^ (n - (f + 1)) + 2 ^ (n - (f + 1)) := by
  have e : n - f = (n - (f + 1)) + 1 := by omega
  rw [e, Nat.pow_succ]
  omega
theorem fall_loop {S : List D → Option D} {n : Nat} {most : Int} (hn : n ≤ 11)
    (ih : ∀ (j : Nat) (top : Int), j < n → 1 ≤ top → ∃ rows, S [.int j, .int top] = some (.lst (rows.map tupI)) ∧ (∀ r ∈ rows, PartOk j top r) ∧ rows ≠ [] ∧ rows.length ≤ 2 ^ j) :
    ∀ (f : Nat), f ≤ n → (f : Int) ≤ most → ∀ (found : List (List Int)) (s3 : Sl), found.length + 1 ≤ 2 ^ (n - f) → (∀ r ∈ found, PartOk n most r) → ∃ found' s3',
      forL (gN 3) (bFall S) ((dn f).map D.int) [.fz (.int n), .fz (.int most), .fz (.lst (found.map tupI)), s3, .no] p0 = some (.nx [.fz (.int n), .fz (.int most), .fz (.lst (found'.map tupI)), s3', .no] p0) ∧
      (∀ r ∈ found', PartOk n most r) ∧ found'.length + 1 ≤ 2 ^ n ∧ (found ≠ [] ∨ 1 ≤ f → found' ≠ [])
  | 0, _, _, found, s3, hl, hp => ⟨found, s3, rfl, hp, hl, fun z => by rcases z with z | z; exact z; omega⟩
  | f + 1, hf, hm, found, s3, hl, hp => by
    obtain ⟨rows, hS, hr, hne, hlen⟩ := ih (n - (f + 1)) ((f : Int) + 1) (by omega) (by omega)
    have ecast : ((n - (f + 1) : Nat) : Int) = (n : Int) - ((f : Int) + 1) := by omega
    rw [ecast] at hS
    have hb : 2 ^ (n - (f + 1)) ≤ 2 ^ 11 := Nat.pow_le_pow_right (by omega) (by omega)
    have st := fall_step (most := most) (found := found) hS (fun r m => by have := (hr r m).len; omega) (by have : (2:Nat) ^ 11 = 2048 := rfl; omega)
    have hp2 : ∀ r ∈ found ++ rows.map (((f : Int) + 1) :: ·), PartOk n most r := fun r m => by
      rcases List.mem_append.mp m with m | m
      · exact hp r m
      · obtain ⟨q, mq, rfl⟩ := List.mem_map.mp m
        obtain ⟨a1, a2, a3⟩ := hr q mq
        refine ⟨fun x mx => ?_, List.pairwise_cons.mpr ⟨fun x mx => (a1 x mx).2, a2⟩, by rw [List.sum_cons, a3]; omega⟩
        rcases List.mem_cons.mp mx with rfl | mx
        · exact ⟨by omega, by push_cast at hm; omega⟩
        · have := a1 x mx
          exact ⟨this.1, by push_cast at hm; omega⟩
    have e2 := two_pow_step hf
    obtain ⟨found', s3', h1, h2, h3, h4⟩ := fall_loop hn ih f (by omega) (by push_cast at hm; omega) (found ++ rows.map (((f : Int) + 1) :: ·)) (.fz (.int ((f : Int) + 1))) (by rw [List.length_append, List.length_map]; omega) hp2
    refine ⟨found', s3', forL_cons (p2 := p0) (s1 := [.fz (.int n), .fz (.int most), .fz (.lst (found.map tupI)), .fz (.int ((f : Int) + 1)), .no]) rfl st h1, h2, h3, fun _ => h4 (.inl ?_)⟩
    intro z
    have := congrArg List.length z
    rw [List.length_append, List.length_map] at this
    have : rows.length = 0 := by simp at this; simp [this]
    exact hne (List.eq_nil_of_length_eq_zero this)
theorem falling_ok : ∀ (k n : Nat) (most : Int), n < k → n ≤ 11 → 0 ≤ most → ∃ rows, S__law_falling k [.int n, .int most] = some (.lst (rows.map tupI)) ∧ (∀ r ∈ rows, PartOk n most r) ∧ (n = 0 ∨ 1 ≤ most → rows ≠ []) ∧ rows.length ≤ 2 ^ n
  | 0, n, most, h, _, _ => by omega
  | k + 1, n, most, h, hn, hm => by
    by_cases h0 : n = 0
    · subst h0
      refine ⟨[[]], sof_rt (p := p0) rfl (ev_seq_rt (ev_ifT (p1 := p0) rfl rfl)), fun r m => ?_, fun _ z => (by cases z), Nat.le_refl _⟩
      rw [List.mem_singleton] at m
      subst m
      exact ⟨fun x m => (by cases m), List.Pairwise.nil, rfl⟩
    · obtain ⟨M, hM, hMn, hMm, hM1⟩ : ∃ M : Nat, (if most < (n : Int) then most else (n : Int)) = (M : Int) ∧ M ≤ n ∧ (M : Int) ≤ most ∧ (1 ≤ most → 1 ≤ M) := by
        by_cases c : most < (n : Int)
        · exact ⟨most.toNat, by rw [if_pos c]; omega, by omega, by omega, by omega⟩
        · exact ⟨n, by rw [if_neg c], Nat.le_refl _, by omega, by omega⟩
      obtain ⟨found', s3', h1, h2, h3, h4⟩ := fall_loop (S := S__law_falling k) (most := most) hn (fun j top hj ht => by
        obtain ⟨rows, r1, r2, r3, r4⟩ := falling_ok k j top (by omega) (by omega) (by omega)
        exact ⟨rows, r1, r2, r3 (.inr ht), r4⟩) M hMn hMm [] .no (by show 1 ≤ _; exact Nat.one_le_two_pow) (fun r m => (by cases m))
      refine ⟨found', sof_rt (p := p0) rfl ?_, h2, fun z => h4 (.inr (hM1 (by omega))), by omega⟩
      refine ev_seq (s1 := [.fz (.int n), .fz (.int most), .no, .no, .no]) (p1 := p0) (ev_ifF (p1 := p0) (ev_tst (ev_bin rfl rfl ?_)) rfl) ?_
      · rw [eqD_int, decide_eq_false (by omega)]
      · refine ev_seq (s1 := [.fz (.int n), .fz (.int most), .fz (.lst []), .no, .no]) (p1 := p0) rfl ?_
        refine ev_seq (p1 := p0) (ev_for (ds := (dn M).map D.int) (p1 := p0) (ev_callL (xs := [.int M, .int 0, .int (-1)]) ?_ ?_) h1) (ev_ret rfl)
        · refine ev_cons (ev_call (p1 := p0) (z := .int M) rfl ?_) rfl
          show some (D.int (if most < (n : Int) then most else (n : Int))) = _
          rw [hM]
        · show (if (-1 : Int) = -1 ∧ -1000000000000 ≤ (M : Int) ∧ (M : Int) < 1000000000000 ∧ (-1000000000000 : Int) ≤ 0 ∧ (0 : Int) < 1000000000000 ∧ ((M : Int) - 0).toNat ≤ 1000000 then some (rngDn (M : Int) ((M : Int) - 0).toNat) else none) = _
          rw [if_pos (by omega), show ((M : Int) - 0).toNat = M by omega, rngDn_dn]
end PG

namespace PG
open PySem L2 DL
def prodI : List Int → Int
  | [] => 1
  | x :: xs => x * prodI xs
theorem prodI_app : ∀ xs ys : List Int, prodI (xs ++ ys) = prodI xs * prodI ys
  | [], ys => by simp [prodI]
  | x :: xs, ys => by simp [prodI, prodI_app xs ys, Int.mul_assoc]
theorem prodI_rev : ∀ xs : List Int, prodI xs.reverse = prodI xs
  | [] => rfl
  | x :: xs => by simp [prodI, prodI_app, prodI_rev xs, Int.mul_comm]
/-- wheels: none of one place, each divides the next -/
structure Wh (r : List Int) : Prop where
  two : ∀ x ∈ r, 2 ≤ x
  chain : r.Pairwise (· ∣ ·)
theorem prodI_pos : ∀ {r : List Int}, (∀ x ∈ r, 1 ≤ x) → 1 ≤ prodI r
  | [], _ => Int.le_refl 1
  | x :: xs, h => by
    have h1 := h x List.mem_cons_self
    have h2 := prodI_pos fun y m => h y (List.mem_cons_of_mem x m)
    show 1 ≤ x * prodI xs
    have := Int.mul_le_mul h1 h2 (by omega) (by omega)
    omega
theorem mem_le_prodI : ∀ {r : List Int}, (∀ x ∈ r, 1 ≤ x) → ∀ x ∈ r, x ≤ prodI r
  | [], _, x, m => by cases m
  | y :: ys, h, x, m => by
    have h1 := h y List.mem_cons_self
    have h2 := prodI_pos fun z m => h z (List.mem_cons_of_mem y m)
    show x ≤ y * prodI ys
    rcases List.mem_cons.mp m with rfl | m
    · have := Int.mul_le_mul_of_nonneg_left h2 (show 0 ≤ x by omega)
      omega
    · have h3 := mem_le_prodI (fun z m => h z (List.mem_cons_of_mem y m)) x m
      have := Int.mul_le_mul_of_nonneg_right h1 (show 0 ≤ prodI ys by omega)
      omega
theorem len_le_prodI : ∀ {r : List Int}, (∀ x ∈ r, 2 ≤ x) → (r.length : Int) + 1 ≤ prodI r
  | [], _ => by simp [prodI]
  | y :: ys, h => by
    have h1 := h y List.mem_cons_self
    have h2 := len_le_prodI fun z m => h z (List.mem_cons_of_mem y m)
    show ((y :: ys).length : Int) + 1 ≤ y * prodI ys
    have := Int.mul_le_mul_of_nonneg_right h1 (show 0 ≤ prodI ys by omega)
    rw [List.length_cons]
    push_cast
    omega
def mrg : List Int → List Int → List Int
  | [], bs => bs
  | a :: as, [] => a :: as
  | a :: as, b :: bs => (a * b) :: mrg as bs
theorem mrg_prod : ∀ as bs : List Int, prodI (mrg as bs) = prodI as * prodI bs
  | [], bs => by simp [mrg, prodI]
  | a :: as, [] => by simp [mrg, prodI]
  | a :: as, b :: bs => by
    show a * b * prodI (mrg as bs) = a * prodI as * (b * prodI bs)
    rw [mrg_prod as bs, Int.mul_assoc, Int.mul_assoc, ← Int.mul_assoc b, Int.mul_comm b, Int.mul_assoc]
theorem two_mul_le {a b : Int} (h1 : 2 ≤ a) (h2 : 2 ≤ b) : 2 ≤ a * b := by
  have := Int.mul_le_mul_of_nonneg_right h1 (show 0 ≤ b by omega)
  omega
theorem mrg_two : ∀ {as bs : List Int}, (∀ x ∈ as, 2 ≤ x) → (∀ x ∈ bs, 2 ≤ x) → ∀ x ∈ mrg as bs, 2 ≤ x
  | [], bs, _, h => h
  | a :: as, [], h, _ => h
  | a :: as, b :: bs, h1, h2 => fun x m => by
    rcases List.mem_cons.mp m with rfl | m
    · exact two_mul_le (h1 a List.mem_cons_self) (h2 b List.mem_cons_self)
    · exact mrg_two (fun y m => h1 y (List.mem_cons_of_mem _ m)) (fun y m => h2 y (List.mem_cons_of_mem _ m)) x m
theorem mrg_dvd : ∀ {as bs : List Int} {A B : Int}, (∀ x ∈ as, x ∣ A) → (∀ x ∈ bs, x ∣ B) → ∀ x ∈ mrg as bs, x ∣ A * B
  | [], bs, A, B, _, h => fun x m => Int.dvd_trans (h x m) (Int.dvd_mul_left _ _)
  | a :: as, [], A, B, h, _ => fun x m => Int.dvd_trans (h x m) (Int.dvd_mul_right _ _)
  | a :: as, b :: bs, A, B, h1, h2 => fun x m => by
    rcases List.mem_cons.mp m with rfl | m
    · exact Int.mul_dvd_mul (h1 a List.mem_cons_self) (h2 b List.mem_cons_self)
    · exact mrg_dvd (fun y m => h1 y (List.mem_cons_of_mem _ m)) (fun y m => h2 y (List.mem_cons_of_mem _ m)) x m
theorem mrg_chain : ∀ {as bs : List Int}, as.Pairwise (fun a b => b ∣ a) → bs.Pairwise (fun a b => b ∣ a) → (mrg as bs).Pairwise fun a b => b ∣ a
  | [], bs, _, h => h
  | a :: as, [], h, _ => h
  | a :: as, b :: bs, h1, h2 => by
    obtain ⟨a1, a2⟩ := List.pairwise_cons.mp h1
    obtain ⟨b1, b2⟩ := List.pairwise_cons.mp h2
    exact List.pairwise_cons.mpr ⟨mrg_dvd a1 b1, mrg_chain a2 b2⟩
theorem mrg_len : ∀ as bs : List Int, (mrg as bs).length = max as.length bs.length
  | [], bs => by simp [mrg]
  | a :: as, [] => by simp [mrg]
  | a :: as, b :: bs => by simp [mrg, mrg_len as bs]
theorem mrg_get : ∀ (as bs : List Int) (k : Nat), k < max as.length bs.length → (mrg as bs)[k]? = some (as.getD k 1 * bs.getD k 1)
  | [], bs, k, h => by
    have h' : k < bs.length := by simpa using h
    simp [mrg, List.getD, h']
  | a :: as, [], k, h => by
    have h' : k < (a :: as).length := by simpa using h
    simp only [mrg, List.getD, List.getElem?_eq_getElem h']
    simp
  | a :: as, b :: bs, 0, h => by simp [mrg]
  | a :: as, b :: bs, k + 1, h => by
    have := mrg_get as bs k (by simp at h; omega)
    simpa [mrg] using this
theorem powI_dvd (p : Int) {a b : Nat} (h : a ≤ b) : p ^ a ∣ p ^ b := ⟨p ^ (b - a), by rw [← Int.pow_add]; congr 1; omega⟩
theorem powI_two {p : Int} (hp : 2 ≤ p) : ∀ {e : Nat}, 1 ≤ e → 2 ≤ p ^ e
  | 1, _ => by rw [Int.pow_succ, Int.pow_zero, Int.one_mul]; exact hp
  | e + 2, _ => by
    have := powI_two hp (e := e + 1) (by omega)
    rw [Int.pow_succ]
    exact two_mul_le this hp
theorem powI_pos {p : Int} (hp : 2 ≤ p) (e : Nat) : 1 ≤ p ^ e := by
  by_cases h : 1 ≤ e
  · have := powI_two hp h; omega
  · have : e = 0 := by omega
    subst this; simp
/-- the powers of a parting -/
def pows (p : Int) (st : List Int) : List Int := st.map fun e => p ^ e.toNat
theorem pows_prod (p : Int) : ∀ {st : List Int}, (∀ x ∈ st, 1 ≤ x) → prodI (pows p st) = p ^ st.sum.toNat ∧ 0 ≤ st.sum
  | [], _ => ⟨by simp [pows, prodI], by simp⟩
  | x :: xs, h => by
    obtain ⟨h1, h2⟩ := pows_prod p fun y m => h y (List.mem_cons_of_mem x m)
    have hx := h x List.mem_cons_self
    refine ⟨?_, by rw [List.sum_cons]; omega⟩
    show p ^ x.toNat * prodI (pows p xs) = _
    rw [h1, List.sum_cons, ← Int.pow_add]
    congr 1
    omega
/-- a row and the steps of a prime -/
def mergeW (p : Int) (row st : List Int) : List Int := (mrg row.reverse (pows p st)).reverse
theorem mergeW_ok {p n most : Int} (hp : 2 ≤ p) {row st : List Int} (hr : Wh row) (hs : PartOk n most st) : Wh (mergeW p row st) ∧ prodI (mergeW p row st) = prodI row * p ^ n.toNat := by
  have h2 : ∀ x ∈ pows p st, 2 ≤ x := fun x m => by
    obtain ⟨e, me, rfl⟩ := List.mem_map.mp m
    exact powI_two hp (by have := (hs.pos e me).1; omega)
  refine ⟨⟨fun x m => ?_, ?_⟩, ?_⟩
  · exact mrg_two (fun y my => hr.two y (List.mem_reverse.mp my)) h2 x (List.mem_reverse.mp m)
  · unfold mergeW
    rw [List.pairwise_reverse]
    refine mrg_chain (List.pairwise_reverse.mpr hr.chain) (List.pairwise_map.mpr (hs.fall.imp fun {a b} h => powI_dvd p ?_))
    omega
  · unfold mergeW
    rw [prodI_rev, mrg_prod, prodI_rev, (pows_prod p fun x m => (hs.pos x m).1).1, hs.sum]

def up : Int → Nat → List Int
  | _, 0 => []
  | k, c + 1 => k :: up (k + 1) c
theorem rngD_up : ∀ (c : Nat) (k : Int), rngD k c = (up k c).map D.int
  | 0, _ => rfl
  | c + 1, k => by
    have ih := rngD_up c (k + 1)
    unfold rngD at ih ⊢
    rw [List.range_succ_eq_map, List.map_cons, List.map_map]
    have e0 : D.int (k + ((0 : Nat) : Int)) = D.int k := by simp
    refine congr (congrArg List.cons e0) ?_
    rw [show List.map D.int (up (k + 1) c) = _ from ih.symm]
    refine List.map_congr_left fun j _ => ?_
    show D.int _ = D.int _
    congr 1
    simp only [Nat.succ_eq_add_one]
    push_cast
    omega
theorem rng1_up {n : Int} (h0 : 0 ≤ n) (h : n ≤ 1000000) : rng1 [.int n] = some ((up 0 n.toNat).map D.int) := by
  rw [← rngD_up]
  exact if_pos (by omega)
section
variable {a0 a1 a2 a4 a5 a6 a7 a8 a9 a10 : Sl} {p : Int}
theorem pow_loop (hp : sml p = true) : ∀ (ks : List Int) (x : Int) (s12 : Sl), ∃ s12', forL (gN 12) (xSet 11 (fBin mulD (fV 11) (fV 3))) (ks.map D.int) [a0, a1, a2, .fz (.int p), a4, a5, a6, a7, a8, a9, a10, .fz (.int x), s12] p0 =
    some (.nx [a0, a1, a2, .fz (.int p), a4, a5, a6, a7, a8, a9, a10, .fz (.int (x * p ^ ks.length)), s12'] p0)
  | [], x, s12 => ⟨s12, by simp [forL]⟩
  | k :: ks, x, s12 => by
    obtain ⟨s12', h⟩ := pow_loop hp ks (x * p) (.fz (.int k))
    refine ⟨s12', forL_cons (s1 := [a0, a1, a2, .fz (.int p), a4, a5, a6, a7, a8, a9, a10, .fz (.int x), .fz (.int k)]) (p2 := p0) rfl (ev_set (ev_bin (p1 := p0) rfl rfl (mulD_r hp)) (by show 11 < 13; omega)) ?_⟩
    rw [show x * p ^ (k :: ks).length = x * p * p ^ ks.length by rw [List.length_cons, Int.pow_succ, Int.mul_assoc, Int.mul_comm (p ^ ks.length)]]
    exact h
end
theorem up_len : ∀ (c : Nat) (k : Int), (up k c).length = c
  | 0, _ => rfl
  | c + 1, k => by simp [up, up_len c]
end PG

namespace PG
open PySem L2 DL
theorem atI_rev {row : List Int} {k : Nat} (h : k < row.length) : atI (row.map D.int) ((row.length : Int) - 1 - (k : Int)) = some (.int (row.reverse.getD k 1)) := by
  rw [atI_pos (by omega) (by rw [List.length_map]; omega)]
  have e : ((row.length : Int) - 1 - (k : Int)).toNat = row.length - 1 - k := by omega
  rw [e, List.getElem?_map, List.getD, List.getElem?_reverse h, List.getElem?_eq_getElem (by omega)]
  rfl
theorem atI_get {row : List Int} {k : Nat} (h : k < row.length) : atI (row.map D.int) (k : Int) = some (.int (row.getD k 0)) := by
  rw [atI_pos (by omega) (by rw [List.length_map]; omega), Int.toNat_natCast, List.getElem?_map, List.getD, List.getElem?_eq_getElem h]
  rfl
theorem pows_getD (p : Int) (st : List Int) (k : Nat) : (pows p st).getD k 1 = p ^ (st.getD k 0).toNat := by
  unfold pows
  rw [List.getD, List.getD, List.getElem?_map]
  cases st[k]? with
  | none => simp
  | some x => rfl
abbrev bNum : FS := (xSeq (xSet 10 (fIf (fTst (fBin ltD (fV 9) (fCall lenD (fCons (fV 6) fNil)))) (fBin ixD (fV 6) (fBin subD (fBin subD (fCall lenD (fCons (fV 6) fNil)) (fC (.int 1))) (fV 9))) (fC (.int 1))))
 (xSeq (xSet 11 (fC (.int 1)))
 (xSeq (xFor (fCallL rng1 (fCons (fIf (fTst (fBin ltD (fV 9) (fCall lenD (fCons (fV 7) fNil)))) (fBin ixD (fV 7) (fV 9)) (fC (.int 0))) fNil)) (gN 12)
 (xSet 11 (fBin mulD (fV 11) (fV 3))))
 (xApp 8 (fBin mulD (fV 10) (fV 11))))))
section
variable {a0 a1 a2 a4 a5 : Sl} {p : Int} {row st : List Int}
abbrev sW (a0 a1 a2 : Sl) (p : Int) (a4 a5 : Sl) (row st : List Int) (nums : List Int) (s9 s10 s11 s12 : Sl) : List Sl := [a0, a1, a2, .fz (.int p), a4, a5, .fz (tupI row), .fz (tupI st), .ol (nums.map D.int), s9, s10, s11, s12]
theorem num_step (hp : sml p = true) (hrow : ∀ x ∈ row, sml x = true) (hst : ∀ x ∈ st, 0 ≤ x ∧ x ≤ 1000) {k : Nat} (hk : k < max row.length st.length) {nums : List Int} (hn : nums.length < 1000000) (s10 s11 s12 : Sl) : ∃ t10 t11 t12,
    bNum (sW a0 a1 a2 p a4 a5 row st nums (.fz (.int k)) s10 s11 s12) p0 = some (.nx (sW a0 a1 a2 p a4 a5 row st (nums ++ [row.reverse.getD k 1 * (pows p st).getD k 1]) (.fz (.int k)) t10 t11 t12) p0) := by
  have hN : sml (row.reverse.getD k 1) = true := by
    rw [List.getD]
    cases e : row.reverse[k]? with
    | none => rfl
    | some x => exact hrow x (List.mem_reverse.mp (List.mem_of_getElem? e))
  have hE : 0 ≤ st.getD k 0 ∧ st.getD k 0 ≤ 1000 := by
    rw [List.getD]
    cases e : st[k]? with
    | none => simp
    | some x => exact hst x (List.mem_of_getElem? e)
  have f1 : fIf (fTst (fBin ltD (fV 9) (fCall lenD (fCons (fV 6) fNil)))) (fBin ixD (fV 6) (fBin subD (fBin subD (fCall lenD (fCons (fV 6) fNil)) (fC (.int 1))) (fV 9))) (fC (.int 1)) (sW a0 a1 a2 p a4 a5 row st nums (.fz (.int k)) s10 s11 s12) p0 = some (.int (row.reverse.getD k 1), p0) := by
    refine ev_ifE (c := decide ((k : Int) < ((row.map D.int).length : Int))) (p1 := p0) rfl (fun h => ?_) (fun h => ?_)
    · have h := of_decide_eq_true h
      rw [List.length_map] at h
      refine ev_bin (y := .int (((row.map D.int).length : Int) - 1 - (k : Int))) (p1 := p0) rfl rfl ?_
      rw [List.length_map]
      exact atI_rev (by omega)
    · have h := of_decide_eq_false h
      rw [List.length_map] at h
      have : row.reverse.getD k 1 = 1 := by
        rw [List.getD, List.getElem?_eq_none (by rw [List.length_reverse]; omega)]
        rfl
      rw [this]
      rfl
  have f2 : fIf (fTst (fBin ltD (fV 9) (fCall lenD (fCons (fV 7) fNil)))) (fBin ixD (fV 7) (fV 9)) (fC (.int 0)) (sW a0 a1 a2 p a4 a5 row st nums (.fz (.int k)) (.fz (.int (row.reverse.getD k 1))) (.fz (.int 1)) s12) p0 = some (.int (st.getD k 0), p0) := by
    refine ev_ifE (c := decide ((k : Int) < ((st.map D.int).length : Int))) (p1 := p0) rfl (fun h => ?_) (fun h => ?_)
    · have h := of_decide_eq_true h
      rw [List.length_map] at h
      exact ev_bin (p1 := p0) rfl rfl (atI_get (by omega))
    · have h := of_decide_eq_false h
      rw [List.length_map] at h
      have : st.getD k 0 = 0 := by
        rw [List.getD, List.getElem?_eq_none (by omega)]
        rfl
      rw [this]
      rfl
  obtain ⟨t12, hl⟩ := pow_loop (a0 := a0) (a1 := a1) (a2 := a2) (a4 := a4) (a5 := a5) (a6 := .fz (tupI row)) (a7 := .fz (tupI st)) (a8 := .ol (nums.map D.int)) (a9 := .fz (.int k)) (a10 := .fz (.int (row.reverse.getD k 1))) hp (up 0 (st.getD k 0).toNat) 1 s12
  rw [up_len, Int.one_mul] at hl
  refine ⟨.fz (.int (row.reverse.getD k 1)), .fz (.int (p ^ (st.getD k 0).toNat)), t12, ev_seq (p1 := p0) (ev_set f1 (by show 10 < 13; omega)) (ev_seq (s1 := sW a0 a1 a2 p a4 a5 row st nums (.fz (.int k)) (.fz (.int (row.reverse.getD k 1))) (.fz (.int 1)) s12) (p1 := p0) rfl ?_)⟩
  refine ev_seq (p1 := p0) (ev_for (p1 := p0) (ev_callL (ev_cons f2 rfl) (rng1_up hE.1 (by omega))) hl) ?_
  have := ev_app (i := 8) (fe := fBin mulD (fV 10) (fV 11)) (s := sW a0 a1 a2 p a4 a5 row st nums (.fz (.int k)) (.fz (.int (row.reverse.getD k 1))) (.fz (.int (p ^ (st.getD k 0).toNat))) t12) (p := p0) (p1 := p0) (xs := nums.map D.int) (d := .int (row.reverse.getD k 1 * p ^ (st.getD k 0).toNat)) rfl (ev_bin (p1 := p0) rfl rfl (mulD_l hN)) (by rw [List.length_map]; exact hn)
  rw [this, pows_getD]
  show some (Out.nx [_, _, _, _, _, _, _, _, _, _, _, _, _] _) = some (Out.nx [_, _, _, _, _, _, _, _, _, _, _, _, _] _)
  rw [List.map_append]
  rfl
theorem num_loop (hp : sml p = true) (hrow : ∀ x ∈ row, sml x = true) (hst : ∀ x ∈ st, 0 ≤ x ∧ x ≤ 1000) (hM : max row.length st.length < 1000000) : ∀ (c k : Nat) (nums : List Int) (s9 s10 s11 s12 : Sl), k + c = max row.length st.length → nums.length = k → ∃ t9 t10 t11 t12,
    forL (gN 9) bNum ((up (k : Int) c).map D.int) (sW a0 a1 a2 p a4 a5 row st nums s9 s10 s11 s12) p0 = some (.nx (sW a0 a1 a2 p a4 a5 row st (nums ++ (mrg row.reverse (pows p st)).drop k) t9 t10 t11 t12) p0)
  | 0, k, nums, s9, s10, s11, s12, hk, hn => by
    refine ⟨s9, s10, s11, s12, ?_⟩
    have : (mrg row.reverse (pows p st)).drop k = [] := by
      refine List.drop_eq_nil_of_le ?_
      rw [mrg_len, List.length_reverse, show (pows p st).length = st.length by simp [pows]]
      omega
    rw [this, List.append_nil]
    rfl
  | c + 1, k, nums, s9, s10, s11, s12, hk, hn => by
    obtain ⟨t10, t11, t12, h1⟩ := num_step (a0 := a0) (a1 := a1) (a2 := a2) (a4 := a4) (a5 := a5) hp hrow hst (k := k) (by omega) (nums := nums) (by omega) s10 s11 s12
    have hlen : k < (mrg row.reverse (pows p st)).length := by
      rw [mrg_len, List.length_reverse, show (pows p st).length = st.length by simp [pows]]
      omega
    have hg := mrg_get row.reverse (pows p st) k (by rw [mrg_len] at hlen; exact hlen)
    obtain ⟨u9, u10, u11, u12, h2⟩ := num_loop hp hrow hst hM c (k + 1) (nums ++ [row.reverse.getD k 1 * (pows p st).getD k 1]) (.fz (.int k)) t10 t11 t12 (by omega) (by simp [hn])
    refine ⟨u9, u10, u11, u12, forL_cons (s1 := sW a0 a1 a2 p a4 a5 row st nums (.fz (.int k)) s10 s11 s12) (p2 := p0) rfl h1 ?_⟩
    have e : nums ++ (mrg row.reverse (pows p st)).drop k = (nums ++ [row.reverse.getD k 1 * (pows p st).getD k 1]) ++ (mrg row.reverse (pows p st)).drop (k + 1) := by
      rw [drop_at hg, List.append_assoc]
      rfl
    rw [e]
    exact h2
end
abbrev bStep : FS := (xSeq (xOwn 8 fNil)
 (xSeq (xFor (fCallL rng1 (fCons (fCall max2D (fCons (fCall lenD (fCons (fV 6) fNil)) (fCons (fCall lenD (fCons (fV 7) fNil)) fNil))) fNil)) (gN 9) bNum)
 (xApp 5 (thE (fCall tupD (fCons (fLst (fRevL (fV 8))) fNil))))))
theorem imm_ints : ∀ ns : List Int, immL (ns.map D.int) = true
  | [] => rfl
  | n :: ns => by
    show (true && immL (ns.map D.int)) = true
    rw [imm_ints ns]
    rfl
theorem imm_tupI (ns : List Int) : (tupI ns).imm = true := imm_ints ns
section
variable {a0 a1 a2 a4 : Sl} {p : Int} {row : List Int}
abbrev sV (a0 a1 a2 : Sl) (p : Int) (a4 : Sl) (longer : List (List Int)) (row : List Int) (s7 s8 s9 s10 s11 s12 : Sl) : List Sl := [a0, a1, a2, .fz (.int p), a4, .ol (longer.map tupI), .fz (tupI row), s7, s8, s9, s10, s11, s12]
theorem step_ok (hp : sml p = true) (hrow : ∀ x ∈ row, sml x = true) {st : List Int} (hst : ∀ x ∈ st, 0 ≤ x ∧ x ≤ 1000) (hM : max row.length st.length < 1000000) {longer : List (List Int)} (hl : longer.length < 1000000) (s8 s9 s10 s11 s12 : Sl) : ∃ t8 t9 t10 t11 t12,
    bStep (sV a0 a1 a2 p a4 longer row (.fz (tupI st)) s8 s9 s10 s11 s12) p0 = some (.nx (sV a0 a1 a2 p a4 (longer ++ [mergeW p row st]) row (.fz (tupI st)) t8 t9 t10 t11 t12) p0) := by
  obtain ⟨t9, t10, t11, t12, h⟩ := num_loop (a0 := a0) (a1 := a1) (a2 := a2) (a4 := a4) (a5 := .ol (longer.map tupI)) hp hrow hst hM (max row.length st.length) 0 [] s9 s10 s11 s12 (by omega) rfl
  rw [List.nil_append, List.drop_zero] at h
  refine ⟨.ol ((mrg row.reverse (pows p st)).map D.int), t9, t10, t11, t12, ev_seq (s1 := sW a0 a1 a2 p a4 (.ol (longer.map tupI)) row st [] s9 s10 s11 s12) (p1 := p0) rfl (ev_seq (p1 := p0) (ev_for (p1 := p0) (ds := (up 0 (max row.length st.length)).map D.int) (ev_callL (xs := [.int ((max row.length st.length : Nat) : Int)]) (ev_cons (ev_call (p1 := p0) rfl ?_) rfl) ?_) h) ?_)⟩
  · show some (D.int (if ((st.map D.int).length : Int) > ((row.map D.int).length : Int) then ((st.map D.int).length : Int) else ((row.map D.int).length : Int))) = _
    rw [List.length_map, List.length_map]
    congr 2
    split <;> omega
  · rw [rng1_up (by omega) (by omega), Int.toNat_natCast]
  · have := ev_app (i := 5) (fe := thE (fCall tupD (fCons (fLst (fRevL (fV 8))) fNil))) (s := sW a0 a1 a2 p a4 (.ol (longer.map tupI)) row st (mrg row.reverse (pows p st)) t9 t10 t11 t12) (p := p0) (p1 := p0) (xs := longer.map tupI) (d := tupI (mergeW p row st)) rfl (ev_thE ?_ (imm_tupI _)) (by rw [List.length_map]; exact hl)
    · rw [this]
      show some (Out.nx [_, _, _, _, _, _, _, _, _, _, _, _, _] _) = some (Out.nx [_, _, _, _, _, _, _, _, _, _, _, _, _] _)
      rw [List.map_append]
      rfl
    · unfold mergeW
      have e : (tupI ((mrg row.reverse (pows p st)).reverse)) = .tup (((mrg row.reverse (pows p st)).map D.int).reverse) := by
        unfold tupI
        rw [List.map_reverse]
      rw [e]
      rfl
theorem steps_loop (hp : sml p = true) (hrow : ∀ x ∈ row, sml x = true) (hR : row.length < 1000000) : ∀ (sts : List (List Int)) (longer : List (List Int)) (s7 s8 s9 s10 s11 s12 : Sl), (∀ st ∈ sts, (∀ x ∈ st, 0 ≤ x ∧ x ≤ 1000) ∧ st.length < 1000000) → longer.length + sts.length ≤ 1000000 → ∃ t7 t8 t9 t10 t11 t12,
    forL (gN 7) bStep (sts.map tupI) (sV a0 a1 a2 p a4 longer row s7 s8 s9 s10 s11 s12) p0 = some (.nx (sV a0 a1 a2 p a4 (longer ++ sts.map (mergeW p row)) row t7 t8 t9 t10 t11 t12) p0)
  | [], longer, s7, s8, s9, s10, s11, s12, _, _ => ⟨s7, s8, s9, s10, s11, s12, by simp [forL]⟩
  | st :: sts, longer, s7, s8, s9, s10, s11, s12, h, hl => by
    obtain ⟨h1, h2⟩ := h st List.mem_cons_self
    rw [List.length_cons] at hl
    obtain ⟨t8, t9, t10, t11, t12, e1⟩ := step_ok (a0 := a0) (a1 := a1) (a2 := a2) (a4 := a4) hp hrow h1 (by omega) (longer := longer) (by omega) s8 s9 s10 s11 s12
    obtain ⟨u7, u8, u9, u10, u11, u12, e2⟩ := steps_loop hp hrow hR sts (longer ++ [mergeW p row st]) (.fz (tupI st)) t8 t9 t10 t11 t12 (fun x m => h x (List.mem_cons_of_mem _ m)) (by rw [List.length_append]; simp; omega)
    refine ⟨u7, u8, u9, u10, u11, u12, forL_cons (p2 := p0) (s1 := sV a0 a1 a2 p a4 longer row (.fz (tupI st)) s8 s9 s10 s11 s12) rfl e1 ?_⟩
    rw [List.map_cons, show longer ++ mergeW p row st :: sts.map (mergeW p row) = (longer ++ [mergeW p row st]) ++ sts.map (mergeW p row) by simp]
    exact e2
end
end PG

namespace PG
open PySem L2 DL
section
variable {a0 a1 a2 : Sl} {p : Int}
abbrev bRow : FS := xFor (fSeq (fCall (S__law_falling 12) (fCons (fV 4) (fCons (fV 4) fNil)))) (gN 7) bStep
theorem rows_loop (hp : sml p = true) {many : Nat} {sts : List (List Int)} (hS : S__law_falling 12 [.int many, .int many] = some (.lst (sts.map tupI))) (hst : ∀ st ∈ sts, (∀ x ∈ st, 0 ≤ x ∧ x ≤ 1000) ∧ st.length < 1000000) :
    ∀ (rows : List (List Int)) (longer : List (List Int)) (s6 s7 s8 s9 s10 s11 s12 : Sl), (∀ r ∈ rows, (∀ x ∈ r, sml x = true) ∧ r.length < 1000000) → longer.length + rows.length * sts.length ≤ 1000000 → ∃ t6 t7 t8 t9 t10 t11 t12,
    forL (gN 6) bRow (rows.map tupI) [a0, a1, a2, .fz (.int p), .fz (.int many), .ol (longer.map tupI), s6, s7, s8, s9, s10, s11, s12] p0 =
      some (.nx [a0, a1, a2, .fz (.int p), .fz (.int many), .ol ((longer ++ rows.flatMap fun r => sts.map (mergeW p r)).map tupI), t6, t7, t8, t9, t10, t11, t12] p0)
  | [], longer, s6, s7, s8, s9, s10, s11, s12, _, _ => ⟨s6, s7, s8, s9, s10, s11, s12, by simp [forL]⟩
  | r :: rows, longer, s6, s7, s8, s9, s10, s11, s12, h, hl => by
    obtain ⟨h1, h2⟩ := h r List.mem_cons_self
    rw [List.length_cons, Nat.add_mul, Nat.one_mul] at hl
    obtain ⟨t7, t8, t9, t10, t11, t12, e1⟩ := steps_loop (a0 := a0) (a1 := a1) (a2 := a2) (a4 := .fz (.int many)) hp h1 h2 sts longer s7 s8 s9 s10 s11 s12 hst (by omega)
    obtain ⟨u6, u7, u8, u9, u10, u11, u12, e2⟩ := rows_loop hp hS hst rows (longer ++ sts.map (mergeW p r)) (.fz (tupI r)) t7 t8 t9 t10 t11 t12 (fun x m => h x (List.mem_cons_of_mem _ m)) (by rw [List.length_append, List.length_map]; omega)
    refine ⟨u6, u7, u8, u9, u10, u11, u12, forL_cons (p2 := p0) (s1 := sV a0 a1 a2 p (.fz (.int many)) longer r s7 s8 s9 s10 s11 s12) rfl (ev_for (p1 := p0) (ev_seqOf (ev_call (p1 := p0) rfl hS) rfl) e1) ?_⟩
    rw [List.flatMap_cons, ← List.append_assoc]
    exact e2
end
/-- how often p divides -/
theorem mult_loop {a0 a1 a5 a6 a7 a8 a9 a10 a11 a12 : Sl} {p : Int} (hp : 2 ≤ p) (hp2 : p < 2 ^ 64) : ∀ (b : Nat) (m : Int) (many : Int), 1 ≤ m → m ≤ b → ∃ (j : Nat) (m' : Int), m = m' * p ^ j ∧ 1 ≤ m' ∧ ¬ p ∣ m' ∧
    whN (b + 1) (fTst (fBin eqD (fBin modD (fCall intD (fCons (fV 2) fNil)) (fV 3)) (fC (.int 0)))) (xSeq (xSet 2 (fBin divD (fV 2) (fV 3))) (xSet 4 (fBin addD (fV 4) (fC (.int 1))))) [a0, a1, .fz (.int m), .fz (.int p), .fz (.int many), a5, a6, a7, a8, a9, a10, a11, a12] p0 =
      some (.nx [a0, a1, .fz (.int m'), .fz (.int p), .fz (.int (many + j)), a5, a6, a7, a8, a9, a10, a11, a12] p0)
  | 0, m, many, h1, h2 => by omega
  | b + 1, m, many, h1, h2 => by
    have tst : ∀ c : Bool, decide (m % p = 0) = c → fTst (fBin eqD (fBin modD (fCall intD (fCons (fV 2) fNil)) (fV 3)) (fC (.int 0))) [a0, a1, .fz (.int m), .fz (.int p), .fz (.int many), a5, a6, a7, a8, a9, a10, a11, a12] p0 = some (c, p0) := fun c hc =>
      ev_tst (ev_bin (p1 := p0) (ev_bin (p1 := p0) rfl rfl (modD_pos (by omega))) rfl (by rw [eqD_int, hc]))
    by_cases hd : m % p = 0
    · have hpm : p ∣ m := Int.dvd_of_emod_eq_zero hd
      have hmul : m / p * p = m := Int.ediv_mul_cancel hpm
      have h3 : 1 ≤ m / p := by
        have : p ≤ m := Int.le_of_dvd (by omega) hpm
        exact (Int.le_ediv_iff_mul_le (by omega)).mpr (by omega)
      have h4 : m / p ≤ b := by
        have : m / p < m := Int.ediv_lt_self_of_pos_of_ne_one (by omega) (by omega)
        omega
      obtain ⟨j, m', e1, e2, e3, e4⟩ := mult_loop hp hp2 b (m / p) (many + 1) h3 h4
      refine ⟨j + 1, m', by rw [Int.pow_succ, ← Int.mul_assoc, ← e1, hmul], e2, e3, whN_step (p1 := p0) (p2 := p0) (tst true (decide_eq_true hd)) ?_ (s2 := [a0, a1, .fz (.int (m / p)), .fz (.int p), .fz (.int (many + 1)), a5, a6, a7, a8, a9, a10, a11, a12]) ?_⟩
      · exact ev_seq (p1 := p0) (ev_set (ev_bin (p1 := p0) rfl rfl (divD_pos (by omega) hp2)) (by show 2 < 13; omega)) rfl
      · rw [e4]
        congr 4
        push_cast
        have : many + 1 + (j : Int) = many + ((j : Int) + 1) := by omega
        rw [this]
    · refine ⟨0, m, by simp, h1, fun z => hd (Int.emod_eq_zero_of_dvd z), ?_⟩
      rw [whN_end (tst false (decide_eq_false hd))]
      simp
theorem sml_of_le {x : Int} (h0 : 0 ≤ x) (h : x ≤ 1000000) : sml x = true := sml_of (by omega) (by omega)
theorem two_pow_le {p : Int} (hp : 2 ≤ p) : ∀ j : Nat, (2 : Int) ^ j ≤ p ^ j
  | 0 => by simp
  | j + 1 => by
    rw [Int.pow_succ, Int.pow_succ]
    exact Int.mul_le_mul (two_pow_le hp j) hp (by omega) (by have := powI_pos hp j; omega)
theorem pow_up {p : Int} (hp : 2 ≤ p) {a b : Nat} (h : a ≤ b) : p ^ a ≤ p ^ b := by
  have e : b = a + (b - a) := by omega
  rw [e, Int.pow_add]
  have h1 := powI_pos hp a
  have h2 := powI_pos hp (b - a)
  have := Int.mul_le_mul_of_nonneg_left h2 (show 0 ≤ p ^ a by omega)
  omega
/-- rows of wheels whose sizes are n -/
structure Rows (n : Int) (rows : List (List Int)) : Prop where
  ne : rows ≠ []
  ok : ∀ r ∈ rows, Wh r ∧ prodI r = n
theorem Rows.sm {n : Int} {rows : List (List Int)} (h : Rows n rows) (hn : n ≤ 4000) : ∀ r ∈ rows, (∀ x ∈ r, sml x = true) ∧ r.length < 1000000 := fun r m => by
  obtain ⟨h1, h2⟩ := h.ok r m
  refine ⟨fun x mx => ?_, ?_⟩
  · have a := h1.two x mx
    have b := mem_le_prodI (fun y my => by have := h1.two y my; omega) x mx
    exact sml_of_le (by omega) (by omega)
  · have := len_le_prodI h1.two
    omega
theorem len_flatMap {α β : Type} {f : α → List β} {k : Nat} : ∀ {l : List α}, (∀ x ∈ l, (f x).length = k) → (l.flatMap f).length = l.length * k
  | [], _ => by simp
  | x :: l, h => by
    rw [List.flatMap_cons, List.length_append, h x List.mem_cons_self, len_flatMap fun y m => h y (List.mem_cons_of_mem _ m), List.length_cons, Nat.add_mul, Nat.one_mul]
    omega
abbrev bMult : FS := (xSeq (xSet 2 (fBin divD (fV 2) (fV 3))) (xSet 4 (fBin addD (fV 4) (fC (.int 1)))))
abbrev bPrime : FS := (xSeq (xSet 4 (fC (.int 0)))
 (xSeq (xWh (fTst (fBin eqD (fBin modD (fCall intD (fCons (fV 2) fNil)) (fV 3)) (fC (.int 0)))) bMult)
 (xSeq (xOwn 5 fNil)
 (xSeq (xFor (fSeq (fV 1)) (gN 6) bRow)
 (xSeq (xMove 5 1)
 (xSet 3 (fBin addD (fV 3) (fC (.int 1)))))))))
theorem prime_step {N : D} {n m p : Int} {rows : List (List Int)} (hn : n ≤ 4000) (hm : 1 ≤ m) (hp : 2 ≤ p) (hp2 : p ≤ 4000) {k : Int} (hk : k * m = n) (hk1 : 1 ≤ k) (hr : Rows k rows) (hlen : (rows.length : Int) * m ≤ n) (s4 s5 s6 s7 s8 s9 s10 s11 s12 : Sl) :
    ∃ (m' k' : Int) (rows' : List (List Int)) (t4 t5 t6 t7 t8 t9 t10 t11 t12 : Sl), 1 ≤ m' ∧ m' ∣ m ∧ ¬ p ∣ m' ∧ k' * m' = n ∧ 1 ≤ k' ∧ Rows k' rows' ∧ (rows'.length : Int) * m' ≤ n ∧
      bPrime [.fz N, .fz (.lst (rows.map tupI)), .fz (.int m), .fz (.int p), s4, s5, s6, s7, s8, s9, s10, s11, s12] p0 = some (.nx [.fz N, .fz (.lst (rows'.map tupI)), .fz (.int m'), .fz (.int (p + 1)), t4, t5, t6, t7, t8, t9, t10, t11, t12] p0) := by
  have hmn : m ≤ n := by
    have := Int.mul_le_mul_of_nonneg_right hk1 (show 0 ≤ m by omega)
    omega
  obtain ⟨j, m', e1, e2, e3, e4⟩ := mult_loop (a0 := .fz N) (a1 := .fz (.lst (rows.map tupI))) (a5 := s5) (a6 := s6) (a7 := s7) (a8 := s8) (a9 := s9) (a10 := s10) (a11 := s11) (a12 := s12) hp (by omega) m.toNat m 0 hm (by omega)
  have hpj : 1 ≤ p ^ j := powI_pos hp j
  have h2j : (2 : Int) ^ j ≤ p ^ j := two_pow_le hp j
  have hpjm : p ^ j ≤ m := by
    have := Int.mul_le_mul_of_nonneg_right e2 (show 0 ≤ p ^ j by omega)
    omega
  have hj : j ≤ 11 := by
    by_cases c : j ≤ 11
    · exact c
    · have : (2 : Int) ^ 12 ≤ 2 ^ j := pow_up (by omega) (by omega)
      have e : (2 : Int) ^ 12 = 4096 := by decide
      omega
  obtain ⟨sts, f1, f2, f3, f4⟩ := falling_ok 12 j (j : Int) (by omega) hj (by omega)
  have hsts : ∀ st ∈ sts, (∀ x ∈ st, 0 ≤ x ∧ x ≤ 1000) ∧ st.length < 1000000 := fun st ms => by
    have h := f2 st ms
    exact ⟨fun x mx => by have := h.pos x mx; omega, by have := h.len; omega⟩
  have hst2 : (sts.length : Int) ≤ p ^ j := by
    have : (sts.length : Int) ≤ ((2 ^ j : Nat) : Int) := by exact_mod_cast f4
    rw [Int.natCast_pow] at this
    exact Int.le_trans this h2j
  have hlen' : ((rows.length * sts.length : Nat) : Int) * m' ≤ n := by
    have a1 : (rows.length : Int) * (sts.length : Int) ≤ (rows.length : Int) * p ^ j := Int.mul_le_mul_of_nonneg_left hst2 (by omega)
    have a2 : (rows.length : Int) * (sts.length : Int) * m' ≤ (rows.length : Int) * p ^ j * m' := Int.mul_le_mul_of_nonneg_right a1 (by omega)
    have a3 : (rows.length : Int) * p ^ j * m' = (rows.length : Int) * m := by rw [e1, Int.mul_assoc, Int.mul_comm (p ^ j)]
    push_cast
    omega
  have hcap : rows.length * sts.length ≤ 4000 := by
    have : ((rows.length * sts.length : Nat) : Int) ≤ ((rows.length * sts.length : Nat) : Int) * m' := by
      have := Int.mul_le_mul_of_nonneg_left e2 (show 0 ≤ ((rows.length * sts.length : Nat) : Int) by omega)
      omega
    omega
  obtain ⟨t6, t7, t8, t9, t10, t11, t12, hr1⟩ := rows_loop (a0 := .fz N) (a1 := .fz (.lst (rows.map tupI))) (a2 := .fz (.int m')) (p := p) (sml_of_le (by omega) (by omega)) f1 hsts rows [] s6 s7 s8 s9 s10 s11 s12 (hr.sm (by
    have := Int.mul_le_mul_of_nonneg_left hm (show 0 ≤ k by omega)
    omega)) (by simp; omega)
  rw [List.nil_append] at hr1
  have hk' : k * p ^ j * m' = n := by rw [Int.mul_assoc, Int.mul_comm (p ^ j), ← e1]; exact hk
  refine ⟨m', k * p ^ j, rows.flatMap fun r => sts.map (mergeW p r), .fz (.int j), .fz (.lst ((rows.flatMap fun r => sts.map (mergeW p r)).map tupI)), t6, t7, t8, t9, t10, t11, t12, e2, ⟨p ^ j, e1⟩, e3, hk', ?_, ⟨?_, fun r m => ?_⟩, ?_, ?_⟩
  · have := Int.mul_le_mul hk1 hpj (by omega) (by omega)
    omega
  · intro z
    obtain ⟨r, hrm⟩ := List.exists_mem_of_ne_nil _ hr.ne
    obtain ⟨st, hsm⟩ := List.exists_mem_of_ne_nil _ (f3 (by omega))
    have : mergeW p r st ∈ rows.flatMap fun r => sts.map (mergeW p r) := List.mem_flatMap.mpr ⟨r, hrm, List.mem_map.mpr ⟨st, hsm, rfl⟩⟩
    rw [z] at this
    cases this
  · obtain ⟨q, mq, mr⟩ := List.mem_flatMap.mp m
    obtain ⟨st, ms, rfl⟩ := List.mem_map.mp mr
    obtain ⟨g1, g2⟩ := mergeW_ok hp (hr.ok q mq).1 (f2 st ms)
    exact ⟨g1, by rw [g2, (hr.ok q mq).2]; simp⟩
  · rw [len_flatMap (k := sts.length) fun r _ => by rw [List.length_map]]
    exact hlen'
  · refine ev_seq (s1 := [.fz N, .fz (.lst (rows.map tupI)), .fz (.int m), .fz (.int p), .fz (.int 0), s5, s6, s7, s8, s9, s10, s11, s12]) (p1 := p0) rfl ?_
    refine ev_seq (p1 := p0) (xWh_of _ e4 (by omega)) ?_
    refine ev_seq (s1 := [.fz N, .fz (.lst (rows.map tupI)), .fz (.int m'), .fz (.int p), .fz (.int j), .ol [], s6, s7, s8, s9, s10, s11, s12]) (p1 := p0) ?_ ?_
    · show some (Out.nx [_, _, _, _, .fz (.int (0 + (j : Int))), _, _, _, _, _, _, _, _] _) = _
      rw [Int.zero_add]
    · refine ev_seq (p1 := p0) (ev_for (p1 := p0) (ds := rows.map tupI) rfl hr1) ?_
      rfl
theorem prime_loop {N : D} {n : Int} (hn : n ≤ 4000) : ∀ (c : Nat) (m p k : Int) (rows : List (List Int)) (s4 s5 s6 s7 s8 s9 s10 s11 s12 : Sl), 1 ≤ m → 2 ≤ p → k * m = n → 1 ≤ k → Rows k rows → (rows.length : Int) * m ≤ n → (∀ q, 2 ≤ q → q < p → ¬ q ∣ m) → (1 < m → m < p + c) →
    ∃ (rows' : List (List Int)) (m' p' : Int) (t4 t5 t6 t7 t8 t9 t10 t11 t12 : Sl), Rows n rows' ∧ (rows'.length : Int) ≤ n ∧
      whN (c + 1) (fTst (fBin gtD (fV 2) (fC (.int 1)))) bPrime [.fz N, .fz (.lst (rows.map tupI)), .fz (.int m), .fz (.int p), s4, s5, s6, s7, s8, s9, s10, s11, s12] p0 = some (.nx [.fz N, .fz (.lst (rows'.map tupI)), .fz (.int m'), .fz (.int p'), t4, t5, t6, t7, t8, t9, t10, t11, t12] p0) := by
  intro c
  induction c with
  | zero =>
    intro m p k rows s4 s5 s6 s7 s8 s9 s10 s11 s12 hm hp hk hk1 hr hl hq hb
    by_cases h1 : 1 < m
    · exact absurd (Int.dvd_refl m) (hq m (by omega) (by have := hb h1; simpa using this))
    · have e : m = 1 := by omega
      subst e
      rw [Int.mul_one] at hk hl
      subst hk
      refine ⟨rows, 1, p, s4, s5, s6, s7, s8, s9, s10, s11, s12, hr, hl, whN_end ?_⟩
      rfl
  | succ c ih =>
    intro m p k rows s4 s5 s6 s7 s8 s9 s10 s11 s12 hm hp hk hk1 hr hl hq hb
    by_cases h1 : 1 < m
    · have hpm : p ≤ m := by
        by_cases z : p ≤ m
        · exact z
        · exact absurd (Int.dvd_refl m) (hq m (by omega) (by omega))
      have hmn : m ≤ n := by
        have := Int.mul_le_mul_of_nonneg_right hk1 (show 0 ≤ m by omega)
        omega
      obtain ⟨m', k', rows', t4, t5, t6, t7, t8, t9, t10, t11, t12, g1, g2, g3, g4, g5, g6, g7, g8⟩ := prime_step (N := N) hn hm hp (by omega) hk hk1 hr hl s4 s5 s6 s7 s8 s9 s10 s11 s12
      have hle : m' ≤ m := Int.le_of_dvd (by omega) g2
      obtain ⟨rows2, m2, p2, u4, u5, u6, u7, u8, u9, u10, u11, u12, h2, h3, h4⟩ := ih m' (p + 1) k' rows' t4 t5 t6 t7 t8 t9 t10 t11 t12 g1 (by omega) g4 g5 g6 g7 (fun q q1 q2 qd => by
        by_cases z : q = p
        · subst z; exact g3 qd
        · exact hq q q1 (by omega) (Int.dvd_trans qd g2)) (fun z => by have := hb h1; push_cast at this; omega)
      refine ⟨rows2, m2, p2, u4, u5, u6, u7, u8, u9, u10, u11, u12, h2, h3, whN_step (p1 := p0) (p2 := p0) (ev_tst (p1 := p0) (b := true) ?_) g8 h4⟩
      exact ev_bin (p1 := p0) rfl rfl (by show some (D.bl (decide (1 < m))) = _; rw [decide_eq_true h1])
    · have e : m = 1 := by omega
      subst e
      rw [Int.mul_one] at hk hl
      subst hk
      refine ⟨rows, 1, p, s4, s5, s6, s7, s8, s9, s10, s11, s12, hr, hl, whN_end ?_⟩
      rfl
theorem rowsI?_rows (rows : List (List Int)) : rowsI? (rows.map tupI) = some rows := rowsI?_map rows
theorem wheels_with_ok {n : Int} (h1 : 1 ≤ n) (hn : n ≤ 4000) : ∃ rows, S__law_wheels_with [.int n] = some (.lst (rows.map tupI)) ∧ Rows n rows ∧ (rows.length : Int) ≤ n := by
  obtain ⟨rows, m', p', t4, t5, t6, t7, t8, t9, t10, t11, t12, h2, h3, h4⟩ := prime_loop (N := .int n) hn n.toNat n 2 1 [[]] .no .no .no .no .no .no .no .no .no h1 (by omega) (by omega) (by omega) ⟨by simp, fun r m => by
    rw [List.mem_singleton] at m
    subst m
    exact ⟨⟨fun x m => (by cases m), List.Pairwise.nil⟩, rfl⟩⟩ (by simp) (fun q q1 q2 _ => by omega) (fun _ => by omega)
  refine ⟨sortL rows, sof_rt (p := p0) rfl ?_, ⟨fun z => ?_, fun r m => h2.ok r ((sortL_perm rows).mem_iff.mp m)⟩, by rw [(sortL_perm rows).length_eq]; exact h3⟩
  · refine ev_seq (s1 := [.fz (.int n), .fz (.lst [tupI []]), .no, .no, .no, .no, .no, .no, .no, .no, .no, .no, .no]) (p1 := p0) rfl ?_
    refine ev_seq (s1 := [.fz (.int n), .fz (.lst [tupI []]), .fz (.int n), .no, .no, .no, .no, .no, .no, .no, .no, .no, .no]) (p1 := p0) rfl ?_
    refine ev_seq (s1 := [.fz (.int n), .fz (.lst [tupI []]), .fz (.int n), .fz (.int 2), .no, .no, .no, .no, .no, .no, .no, .no, .no]) (p1 := p0) rfl ?_
    refine ev_seq (p1 := p0) (xWh_of _ h4 (by omega)) (ev_ret (ev_lst (ev_callL (p1 := p0) rfl ?_)))
    show (rowsI? (rows.map tupI)).bind _ = _
    rw [rowsI?_rows, Option.bind_some, if_pos]
    by_cases c : n = 1
    · have : rows.length ≤ 1 := by omega
      rw [decide_eq_true this]
      rfl
    · rw [Bool.or_eq_true]
      refine .inr (List.all_eq_true.mpr fun r m => ?_)
      cases r with
      | nil => have := (h2.ok _ m).2; simp [prodI] at this; omega
      | cons _ _ => rfl
  · have := (sortL_perm rows).length_eq
    rw [z] at this
    exact h2.ne (List.eq_nil_of_length_eq_zero this.symm)
theorem pick_ok {xs : List D} {P : Pool} (hne : xs ≠ []) (hl : (xs.length : Int) < 2 ^ 64) (hP : 0 ≤ P.a) : ∃ (i : Nat) (x : D) (P' : Pool), S__law_pick [.lst xs] P = some (x, P') ∧ xs[i]? = some x ∧ 0 ≤ P'.a := by
  have h0 : 0 < (xs.length : Int) := by
    have := List.length_pos_iff.mpr hne
    omega
  obtain ⟨v, P', e, v0, v1, hP'⟩ := draw_ok h0 hl hP
  have hv : v.toNat < xs.length := by omega
  refine ⟨v.toNat, xs[v.toNat], P', spof_rt rfl (ev_ret (ev_bin (p1 := P) rfl (ev_callP (p1 := P) rfl rfl e) ?_)), List.getElem?_eq_getElem hv, hP'⟩
  show atI xs v = _
  rw [atI_pos v0 v1, List.getElem?_eq_getElem hv]
theorem pick_mem {α : Type} {f : α → D} {xs : List α} {P : Pool} (hne : xs ≠ []) (hl : (xs.length : Int) < 2 ^ 64) (hP : 0 ≤ P.a) : ∃ (x : α) (P' : Pool), S__law_pick [.lst (xs.map f)] P = some (f x, P') ∧ x ∈ xs ∧ 0 ≤ P'.a := by
  obtain ⟨i, d, P', e, hi, hP'⟩ := pick_ok (xs := xs.map f) (by simpa using hne) (by rw [List.length_map]; exact hl) hP
  rw [List.getElem?_map] at hi
  cases hx : xs[i]? with
  | none => rw [hx] at hi; cases hi
  | some x =>
    rw [hx] at hi
    cases hi
    exact ⟨x, P', e, List.mem_of_getElem? hx, hP'⟩
/-- wheels drawn: of at most so many elements -/
theorem wheels_ok {most : Int} {P : Pool} (h1 : 1 ≤ most) (hn : most ≤ 4000) (hP : 0 ≤ P.a) : ∃ (w : List Int) (P' : Pool), S__law_wheels [.int most] P = some (tupI w, P') ∧ Wh w ∧ prodI w ≤ most ∧ 0 ≤ P'.a := by
  obtain ⟨v, P1, e1, v0, v1, hP1⟩ := draw_ok (m := most) (by omega) (by omega) hP
  obtain ⟨rows, r1, r2, r3⟩ := wheels_with_ok (n := 1 + v) (by omega) (by omega)
  obtain ⟨w, P2, e2, hw, hP2⟩ := pick_mem (f := tupI) r2.ne (by omega) hP1
  refine ⟨w, P2, spof_rt rfl (ev_ret (ev_callP (p1 := P1) rfl (ev_cons (p1 := P1) (ev_call (p1 := P1) (ev_cons (p1 := P1) (ev_bin (p1 := P) rfl (ev_callP (p1 := P) rfl rfl e1) rfl) rfl) r1) rfl) e2)), (r2.ok w hw).1, by rw [(r2.ok w hw).2]; omega, hP2⟩
end PG

namespace PG
open PySem L2 DL
theorem fine_ints : ∀ (ns : List Int) (n : Nat), fineL n (ns.map D.int) = true
  | [], n => by simp [fineL]
  | x :: xs, n => by
    rw [List.map_cons]
    simp [fineL, D.fine, fine_ints xs n]
theorem fine_tupI (ns : List Int) (n : Nat) : (tupI ns).fine (n + 1) = true := by
  show (D.tup (ns.map D.int)).fine (n + 1) = true
  rw [D.fine]
  exact fine_ints ns n
theorem fine_rows : ∀ (rs : List (List Int)) (n : Nat), fineL (n + 1) (rs.map tupI) = true
  | [], n => by simp [fineL]
  | x :: xs, n => by
    rw [List.map_cons]
    simp only [fineL, fine_rows xs n, Bool.and_true]
    exact fine_tupI x n
theorem eqv_ints : ∀ (a b : List Int), PyData.eqvAll (pyL (a.map D.int)) (pyL (b.map D.int)) = decide (a = b)
  | [], [] => by simp [pyL, PyData.eqvAll]
  | [], _ :: _ => by simp [pyL, PyData.eqvAll]
  | _ :: _, [] => by simp [pyL, PyData.eqvAll]
  | x :: xs, y :: ys => by
    have h := deq_int x y
    unfold deq at h
    simp only [List.map_cons, pyL, PyData.eqvAll]
    rw [h, eqv_ints xs ys]
    by_cases e : x = y <;> by_cases e2 : xs = ys <;> simp [e, e2]
theorem deq_tupI (a b : List Int) : deq (tupI a) (tupI b) = decide (a = b) := by
  unfold deq
  show PyData.eqv (D.tup (a.map D.int)).py (D.tup (b.map D.int)).py = _
  simp only [D.py, PyData.eqv]
  exact eqv_ints a b
theorem eqD_tupI (a b : List Int) : eqD (tupI a) (tupI b) = some (.bl (decide (a = b))) := by
  unfold eqD
  rw [if_pos ⟨fine_tupI a 59, fine_tupI b 59⟩, deq_tupI]
theorem neD_tupI (a b : List Int) : neD (tupI a) (tupI b) = some (.bl (!decide (a = b))) := by
  unfold neD
  rw [if_pos ⟨fine_tupI a 59, fine_tupI b 59⟩, deq_tupI]
theorem any_tupI (a : List Int) : ∀ rs : List (List Int), ((rs.map tupI).any fun y => deq y (tupI a)) = decide (a ∈ rs)
  | [] => by simp
  | r :: rs => by
    rw [List.map_cons, List.any_cons, any_tupI a rs, deq_tupI]
    by_cases e : r = a
    · subst e; simp
    · by_cases e2 : a ∈ rs
      · simp [e2]
      · have : ¬ a = r := fun z => e z.symm
        simp [e, e2, this]
theorem inD_tup (a : List Int) (rs : List (List Int)) : inD (tupI a) (.tup (rs.map tupI)) = some (.bl (decide (a ∈ rs))) := by
  unfold inD
  simp only
  rw [if_pos ⟨fine_tupI a 59, fine_rows rs 58⟩, any_tupI]
theorem inD_lst (a : List Int) (rs : List (List Int)) : inD (tupI a) (.lst (rs.map tupI)) = some (.bl (decide (a ∈ rs))) := by
  unfold inD
  simp only
  rw [if_pos ⟨fine_tupI a 59, fine_rows rs 58⟩, any_tupI]
theorem ninD_tup (a : List Int) (rs : List (List Int)) : ninD (tupI a) (.tup (rs.map tupI)) = some (.bl (!decide (a ∈ rs))) := by
  unfold ninD
  rw [inD_tup]
theorem ninD_lst (a : List Int) (rs : List (List Int)) : ninD (tupI a) (.lst (rs.map tupI)) = some (.bl (!decide (a ∈ rs))) := by
  unfold ninD
  rw [inD_lst]

theorem shared_loop : ∀ (b a : Nat), whN (b + 1) (fTst (fBin neD (fV 1) (fC (.int 0)))) (xPar 0 1 (fCons (fV 1) (fCons (fBin modD (fV 0) (fV 1)) fNil))) [.fz (.int a), .fz (.int b)] p0 = some (.nx [.fz (.int (Nat.gcd a b : Nat)), .fz (.int 0)] p0) := by
  intro b
  induction b using Nat.strongRecOn with
  | _ b ih =>
    intro a
    by_cases h : b = 0
    · subst h
      rw [Nat.gcd_zero_right]
      exact whN_end (ev_tst (ev_bin (p1 := p0) rfl rfl (by rw [neD_int]; rfl)))
    · have hlt : a % b < b := Nat.mod_lt _ (by omega)
      have e := ih (a % b) hlt b
      have eg : Nat.gcd a b = Nat.gcd b (a % b) := by rw [Nat.gcd_comm a b, Nat.gcd_rec b a, Nat.gcd_comm]
      rw [eg]
      refine whN_step (p1 := p0) (p2 := p0) (ev_tst (b := true) (ev_bin (p1 := p0) rfl rfl ?_)) (ev_par (p1 := p0) (d := .int b) (d' := .int ((a % b : Nat) : Int)) ?_ ⟨by show 0 < 2; omega, by show 1 < 2; omega⟩) (whN_le (show a % b + 1 ≤ b by omega) e)
      · rw [neD_int, decide_eq_false (by omega)]
        rfl
      · exact ev_cons (p1 := p0) rfl (ev_cons (p1 := p0) (ev_bin (p1 := p0) rfl rfl (by rw [modD_pos (by omega)]; rfl)) rfl)
theorem shared_ok {a b : Int} (ha : 0 ≤ a) (hb : 0 ≤ b) (hb2 : b ≤ 10000000) : S_shared [.int a, .int b] = some (.int (Nat.gcd a.toNat b.toNat : Nat)) := by
  have h := shared_loop b.toNat a.toNat
  rw [show ((a.toNat : Nat) : Int) = a by omega, show ((b.toNat : Nat) : Int) = b by omega] at h
  refine sof_rt (p := p0) rfl (ev_seq (p1 := p0) (xWh_of _ h (by omega)) (ev_ret (ev_call (p1 := p0) rfl ?_)))
  show some (D.int (if ((Nat.gcd a.toNat b.toNat : Nat) : Int) < 0 then _ else _)) = _
  rw [if_neg (by omega)]

def El : List Int → List Int → Prop
  | [], [] => True
  | n :: w, a :: x => 0 ≤ a ∧ a < n ∧ El w x
  | _, _ => False
theorem El.len : ∀ {w x : List Int}, El w x → x.length = w.length
  | [], [], _ => rfl
  | n :: w, a :: x, h => by simp [El.len h.2.2]
  | [], _ :: _, h => h.elim
  | _ :: _, [], h => h.elim
def zip3I : List Int → List Int → List Int → List (Int × Int × Int)
  | a :: x, b :: y, n :: w => (a, b, n) :: zip3I x y w
  | _, _, _ => []
theorem zipD3_map : ∀ x y w : List Int, zipD3 (x.map D.int) (y.map D.int) (w.map D.int) = (zip3I x y w).map fun t => .tup [.int t.1, .int t.2.1, .int t.2.2]
  | a :: x, b :: y, n :: w => by simp [zip3I, zipD3, zipD3_map x y w]
  | [], _, _ => by simp [zip3I, zipD3]
  | _ :: _, [], _ => by simp [zip3I, zipD3]
  | _ :: _, _ :: _, [] => by simp [zip3I, zipD3]
def zip2I : List Int → List Int → List (Int × Int)
  | a :: x, n :: w => (a, n) :: zip2I x w
  | _, _ => []
theorem zipD2_map : ∀ x w : List Int, zipD2 (x.map D.int) (w.map D.int) = (zip2I x w).map fun t => .tup [.int t.1, .int t.2]
  | a :: x, n :: w => by simp [zip2I, zipD2, zipD2_map x w]
  | [], _ => by simp [zip2I, zipD2]
  | _ :: _, [] => by simp [zip2I, zipD2]
def addW (w x y : List Int) : List Int := (zip3I x y w).map fun t => (t.1 + t.2.1) % t.2.2
def mulW (w : List Int) (k : Int) (x : List Int) : List Int := (zip2I x w).map fun t => k * t.1 % t.2
def zeroW (w : List Int) : List Int := w.map fun _ => 0
theorem zip3I_mem : ∀ {x y w : List Int} {t : Int × Int × Int}, t ∈ zip3I x y w → t.2.2 ∈ w
  | a :: x, b :: y, n :: w, t, h => by
    rcases List.mem_cons.mp h with rfl | h
    · exact List.mem_cons_self
    · exact List.mem_cons_of_mem _ (zip3I_mem h)
  | [], _, _, _, h => by simp [zip3I] at h
  | _ :: _, [], _, _, h => by simp [zip3I] at h
  | _ :: _, _ :: _, [], _, h => by simp [zip3I] at h
theorem zip2I_mem : ∀ {x w : List Int} {t : Int × Int}, t ∈ zip2I x w → t.1 ∈ x ∧ t.2 ∈ w
  | a :: x, n :: w, t, h => by
    rcases List.mem_cons.mp h with rfl | h
    · exact ⟨List.mem_cons_self, List.mem_cons_self⟩
    · exact ⟨List.mem_cons_of_mem _ (zip2I_mem h).1, List.mem_cons_of_mem _ (zip2I_mem h).2⟩
  | [], _, _, h => by simp [zip2I] at h
  | _ :: _, [], _, h => by simp [zip2I] at h
theorem El.mem : ∀ {w x : List Int}, El w x → ∀ t ∈ zip2I x w, 0 ≤ t.1 ∧ t.1 < t.2
  | [], [], _, t, h => by simp [zip2I] at h
  | n :: w, a :: x, e, t, h => by
    rcases List.mem_cons.mp h with rfl | h
    · exact ⟨e.1, e.2.1⟩
    · exact El.mem e.2.2 t h
  | [], _ :: _, e, _, _ => e.elim
  | _ :: _, [], e, _, _ => e.elim
/-- wheels that are small enough to be reckoned with -/
structure Sm (w : List Int) : Prop where
  pos : ∀ n ∈ w, 1 ≤ n
  le : ∀ n ∈ w, n ≤ 1000000
theorem plus_ok {w x y : List Int} (hw : Sm w) : S_plus [tupI w, tupI x, tupI y] = some (tupI (addW w x y)) := by
  refine sof_rt (p := p0) rfl (ev_ret (ev_call (p1 := p0) (xs := [.lst ((addW w x y).map D.int)]) (ev_cons (p1 := p0) (ev_lst ?_) rfl) rfl))
  refine ev_lc (p1 := p0) (ds := (zip3I x y w).map fun t => .tup [.int t.1, .int t.2.1, .int t.2.2]) (ev_callL (p1 := p0) rfl ?_) rfl ?_
  · show some (zipD3 (x.map D.int) (y.map D.int) (w.map D.int)) = _
    rw [zipD3_map]
  · unfold addW
    rw [List.map_map]
    refine lcL_map (f := fun t : Int × Int × Int => D.int ((t.1 + t.2.1) % t.2.2)) fun t m => ⟨[.fz (tupI w), .fz (tupI x), .fz (tupI y), .fz (.int t.1), .fz (.int t.2.1), .fz (.int t.2.2)], rfl, ?_⟩
    exact ev_bin (p1 := p0) rfl rfl (modD_pos (by have := hw.pos _ (zip3I_mem m); omega))
theorem times_ok {w x : List Int} {k : Int} (hw : Sm w) (hx : ∀ a ∈ x, sml a = true) : S_times_element [tupI w, .int k, tupI x] = some (tupI (mulW w k x)) := by
  refine sof_rt (p := p0) rfl (ev_ret (ev_call (p1 := p0) (xs := [.lst ((mulW w k x).map D.int)]) (ev_cons (p1 := p0) (ev_lst ?_) rfl) rfl))
  refine ev_lc (p1 := p0) (ds := (zip2I x w).map fun t => .tup [.int t.1, .int t.2]) (ev_callL (p1 := p0) rfl ?_) rfl ?_
  · show some (zipD2 (x.map D.int) (w.map D.int)) = _
    rw [zipD2_map]
  · unfold mulW
    rw [List.map_map]
    refine lcL_map (f := fun t : Int × Int => D.int (k * t.1 % t.2)) fun t m => ⟨[.fz (tupI w), .fz (.int k), .fz (tupI x), .fz (.int t.1), .fz (.int t.2)], rfl, ?_⟩
    obtain ⟨m1, m2⟩ := zip2I_mem m
    exact ev_bin (p1 := p0) (ev_bin (p1 := p0) rfl rfl (mulD_r (hx _ m1))) rfl (modD_pos (by have := hw.pos _ m2; omega))
theorem rep_zero : ∀ w : List Int, (List.replicate w.length [D.int 0]).flatten = (zeroW w).map D.int
  | [] => rfl
  | n :: w => by
    rw [List.length_cons, List.replicate_succ, List.flatten_cons, rep_zero w]
    rfl
theorem nought_ok {w : List Int} (hl : w.length ≤ 1000) : S_nought [tupI w] = some (tupI (zeroW w)) := by
  refine sof_rt (p := p0) rfl (ev_ret (ev_bin (p1 := p0) rfl rfl ?_))
  show (if [D.int 0].length ≤ 1000 ∧ -(2 ^ 63) ≤ ((w.map D.int).length : Int) ∧ ((w.map D.int).length : Int) ≤ 1000 then some (D.tup (List.replicate ((w.map D.int).length : Int).toNat [D.int 0]).flatten) else none) = _
  rw [List.length_map, if_pos ⟨by simp, by omega, by omega⟩, Int.toNat_natCast, rep_zero]
theorem exponent_ok {w : List Int} : S_exponent_of [tupI w] = some (.int (w.getLastD 1)) := by
  refine sof_rt (p := p0) rfl (ev_ret (ev_ifE (c := decide (0 < ((w.map D.int).length : Int))) (p1 := p0) rfl (fun h => ?_) (fun h => ?_)))
  · have h := of_decide_eq_true h
    rw [List.length_map] at h
    refine ev_bin (p1 := p0) (y := .int (-1)) rfl rfl ?_
    show atI (w.map D.int) (-1) = _
    unfold atI ixN
    rw [List.length_map, if_neg (by omega), if_pos (by omega)]
    show (w.map D.int)[(-1 + (w.length : Int)).toNat]? = _
    rw [show (-1 + (w.length : Int)).toNat = w.length - 1 by omega, List.getElem?_map, ← List.getLast?_eq_getElem?]
    rw [List.getLastD_eq_getLast?]
    cases e : w.getLast? with
    | none =>
      rw [List.getLast?_eq_none_iff] at e
      subst e
      simp at h
    | some z => rfl
  · have h := of_decide_eq_false h
    rw [List.length_map] at h
    cases w with
    | nil => rfl
    | cons a r => simp at h
end PG

namespace PG
open PySem L2 DL
def gcdI (a b : Int) : Int := (Nat.gcd a.toNat b.toNat : Nat)
theorem gcdI_pos {a b : Int} (hb : 1 ≤ b) : 1 ≤ gcdI a b := by
  have : 0 < Nat.gcd a.toNat b.toNat := Nat.gcd_pos_of_pos_right _ (by omega)
  unfold gcdI
  omega
theorem gcdI_le {a b : Int} (hb : 1 ≤ b) : gcdI a b ≤ b := by
  have : Nat.gcd a.toNat b.toNat ≤ b.toNat := Nat.gcd_le_right _ (by omega)
  unfold gcdI
  omega
theorem gcdI_dvd_r {a b : Int} (hb : 0 ≤ b) : gcdI a b ∣ b := by
  obtain ⟨b', rfl⟩ : ∃ m : Nat, b = m := ⟨b.toNat, by omega⟩
  unfold gcdI
  rw [Int.toNat_natCast]
  exact Int.natCast_dvd_natCast.mpr (Nat.gcd_dvd_right _ _)
theorem gcdI_dvd_l {a b : Int} (ha : 0 ≤ a) : gcdI a b ∣ a := by
  obtain ⟨a', rfl⟩ : ∃ m : Nat, a = m := ⟨a.toNat, by omega⟩
  unfold gcdI
  rw [Int.toNat_natCast]
  exact Int.natCast_dvd_natCast.mpr (Nat.gcd_dvd_left _ _)
theorem div_pos {a g : Int} (ha : 1 ≤ a) (hg : 1 ≤ g) (h : g ∣ a) : 1 ≤ a / g :=
  (Int.le_ediv_iff_mul_le (by omega)).mpr (by have := Int.le_of_dvd (by omega) h; omega)
/-- n / gcd(a, n) divides k just if n divides k * a -/
theorem part_dvd {a n k : Int} (ha : 0 ≤ a) (hn : 1 ≤ n) : n / gcdI a n ∣ k ↔ n ∣ k * a := by
  obtain ⟨n', rfl⟩ : ∃ m : Nat, n = m := ⟨n.toNat, by omega⟩
  obtain ⟨a', rfl⟩ : ∃ m : Nat, a = m := ⟨a.toNat, by omega⟩
  unfold gcdI
  rw [Int.toNat_natCast, Int.toNat_natCast, ← Int.natCast_ediv, Int.ofNat_dvd_left, Int.ofNat_dvd_left, Int.natAbs_mul, Int.natAbs_natCast]
  generalize k.natAbs = K
  have hn' : 0 < n' := by omega
  have hg : 0 < Nat.gcd a' n' := Nat.gcd_pos_of_pos_right _ hn'
  obtain ⟨n1, e1⟩ := Nat.gcd_dvd_right a' n'
  obtain ⟨a1, e2⟩ := Nat.gcd_dvd_left a' n'
  have hc : Nat.Coprime a1 n1 := by
    have := Nat.coprime_div_gcd_div_gcd hg
    have x1 : a' / Nat.gcd a' n' = a1 := Nat.div_eq_of_eq_mul_right hg e2
    have x2 : n' / Nat.gcd a' n' = n1 := Nat.div_eq_of_eq_mul_right hg e1
    rw [x1, x2] at this
    exact this
  have x2 : n' / Nat.gcd a' n' = n1 := Nat.div_eq_of_eq_mul_right hg e1
  rw [x2]
  constructor
  · rintro ⟨c, hc⟩
    refine ⟨c * a1, ?_⟩
    rw [hc]
    conv => lhs; rw [e2]
    conv => rhs; rw [e1]
    simp only [Nat.mul_assoc, Nat.mul_comm, Nat.mul_left_comm]
  · intro h
    have this : K * a' = Nat.gcd a' n' * (K * a1) := by
      conv => lhs; rw [e2]
      simp only [Nat.mul_assoc, Nat.mul_comm, Nat.mul_left_comm]
    have h2 : Nat.gcd a' n' * n1 ∣ Nat.gcd a' n' * (K * a1) := by
      rw [← this, ← e1]
      exact h
    have h3 := Nat.dvd_of_mul_dvd_mul_left hg h2
    exact hc.symm.dvd_of_dvd_mul_right h3
/-- the least common multiple -/
theorem lcm_dvd {a b k : Int} (ha : 1 ≤ a) (hb : 1 ≤ b) : a * b / gcdI a b ∣ k ↔ a ∣ k ∧ b ∣ k := by
  obtain ⟨n', rfl⟩ : ∃ m : Nat, a = m := ⟨a.toNat, by omega⟩
  obtain ⟨m', rfl⟩ : ∃ m : Nat, b = m := ⟨b.toNat, by omega⟩
  unfold gcdI
  rw [Int.toNat_natCast, Int.toNat_natCast, ← Int.natCast_mul, ← Int.natCast_ediv, Int.ofNat_dvd_left, Int.ofNat_dvd_left, Int.ofNat_dvd_left]
  constructor
  · intro h
    exact ⟨Nat.dvd_trans (Nat.dvd_lcm_left n' m') h, Nat.dvd_trans (Nat.dvd_lcm_right n' m') h⟩
  · rintro ⟨h1, h2⟩
    exact Nat.lcm_dvd h1 h2
theorem lcm_pos {a b : Int} (ha : 1 ≤ a) (hb : 1 ≤ b) : 1 ≤ a * b / gcdI a b := by
  have h1 : 1 ≤ a * b := by have := Int.mul_le_mul_of_nonneg_left hb (show 0 ≤ a by omega); omega
  exact div_pos h1 (gcdI_pos hb) (Int.dvd_trans (gcdI_dvd_r (by omega)) (Int.dvd_mul_left _ _))
def partI (t : Int × Int) : Int := t.2 / gcdI t.1 t.2
def ordF : Int → List (Int × Int) → Int
  | f, [] => f
  | f, t :: r => ordF (f * partI t / gcdI f (partI t)) r
def OkP (t : Int × Int) : Prop := 0 ≤ t.1 ∧ 1 ≤ t.2 ∧ t.2 ≤ 1000000
theorem partI_pos {t : Int × Int} (h : OkP t) : 1 ≤ partI t ∧ partI t ≤ t.2 := by
  obtain ⟨h1, h2, h3⟩ := h
  refine ⟨div_pos h2 (gcdI_pos h2) (gcdI_dvd_r (by omega)), ?_⟩
  exact Int.ediv_le_self _ (by omega)
theorem ordF_dvd : ∀ {ps : List (Int × Int)} {f k : Int}, 1 ≤ f → (∀ t ∈ ps, OkP t) → (ordF f ps ∣ k ↔ f ∣ k ∧ ∀ t ∈ ps, t.2 ∣ k * t.1)
  | [], f, k, _, _ => by simp [ordF]
  | t :: r, f, k, hf, h => by
    have ht := h t List.mem_cons_self
    have hp := (partI_pos ht).1
    show ordF (f * partI t / gcdI f (partI t)) r ∣ k ↔ _
    rw [ordF_dvd (lcm_pos hf hp) fun x m => h x (List.mem_cons_of_mem _ m), lcm_dvd hf hp, show partI t ∣ k ↔ t.2 ∣ k * t.1 from part_dvd ht.1 ht.2.1]
    constructor
    · rintro ⟨⟨h1, h2⟩, h3⟩
      refine ⟨h1, fun x m => ?_⟩
      rcases List.mem_cons.mp m with rfl | m
      · exact h2
      · exact h3 x m
    · rintro ⟨h1, h2⟩
      exact ⟨⟨h1, h2 t List.mem_cons_self⟩, fun x m => h2 x (List.mem_cons_of_mem _ m)⟩
theorem ordF_pos : ∀ {ps : List (Int × Int)} {f : Int}, 1 ≤ f → (∀ t ∈ ps, OkP t) → 1 ≤ ordF f ps
  | [], f, hf, _ => hf
  | t :: r, f, hf, h => by
    show 1 ≤ ordF (f * partI t / gcdI f (partI t)) r
    exact ordF_pos (lcm_pos hf (partI_pos (h t List.mem_cons_self)).1) fun x m => h x (List.mem_cons_of_mem _ m)
theorem order_loop {W X : D} : ∀ (ps : List (Int × Int)) (f : Int) (s3 s4 s5 : Sl), 1 ≤ f → (∀ t ∈ ps, OkP t) → ∃ t3 t4 t5,
    forL (gT 2 (gConsD (gN 3) (gConsD (gN 4) gNilD))) (xSeq (xSet 5 (fBin divD (fV 4) (fCall S_shared (fCons (fV 3) (fCons (fV 4) fNil)))))
      (xSet 2 (fBin divD (fBin mulD (fV 2) (fV 5)) (fCall S_shared (fCons (fV 2) (fCons (fV 5) fNil)))))) (ps.map fun t => .tup [.int t.1, .int t.2]) [.fz W, .fz X, .fz (.int f), s3, s4, s5] p0 =
      some (.nx [.fz W, .fz X, .fz (.int (ordF f ps)), t3, t4, t5] p0)
  | [], f, s3, s4, s5, _, _ => ⟨s3, s4, s5, rfl⟩
  | t :: r, f, s3, s4, s5, hf, h => by
    obtain ⟨h1, h2, h3⟩ := h t List.mem_cons_self
    obtain ⟨q1, q2⟩ := partI_pos (h t List.mem_cons_self)
    obtain ⟨t3, t4, t5, e⟩ := order_loop r (f * partI t / gcdI f (partI t)) (.fz (.int t.1)) (.fz (.int t.2)) (.fz (.int (partI t))) (lcm_pos hf q1) fun x m => h x (List.mem_cons_of_mem _ m)
    refine ⟨t3, t4, t5, forL_cons (p2 := p0) (s1 := [.fz W, .fz X, .fz (.int f), .fz (.int t.1), .fz (.int t.2), s5]) rfl ?_ e⟩
    have g1 := gcdI_le (a := t.1) h2
    have g2 := gcdI_pos (a := t.1) h2
    have g3 := gcdI_le (a := f) q1
    have g4 := gcdI_pos (a := f) q1
    refine ev_seq (s1 := [.fz W, .fz X, .fz (.int f), .fz (.int t.1), .fz (.int t.2), .fz (.int (partI t))]) (p1 := p0) (ev_set (ev_bin (p1 := p0) rfl (ev_call (p1 := p0) rfl (shared_ok h1 (by omega) (by omega))) (divD_pos (show 0 < gcdI t.1 t.2 by omega) (show gcdI t.1 t.2 < 2 ^ 64 by omega))) (by show 5 < 6; omega)) ?_
    exact ev_set (ev_bin (p1 := p0) (ev_bin (p1 := p0) rfl rfl (mulD_r (sml_of_le (by omega) (by omega)))) (ev_call (p1 := p0) rfl (shared_ok (by omega) (by omega) (by omega))) (divD_pos (show 0 < gcdI f (partI t) by omega) (show gcdI f (partI t) < 2 ^ 64 by omega))) (by show 2 < 6; omega)
def ordW (w x : List Int) : Int := ordF 1 (zip2I x w)
theorem okP_of {w x : List Int} (hw : Sm w) (hx : ∀ a ∈ x, 0 ≤ a) : ∀ t ∈ zip2I x w, OkP t := fun t m => by
  obtain ⟨m1, m2⟩ := zip2I_mem m
  exact ⟨hx _ m1, hw.pos _ m2, hw.le _ m2⟩
theorem El.nn : ∀ {w x : List Int}, El w x → ∀ a ∈ x, 0 ≤ a
  | [], [], _, a, h => by cases h
  | n :: w, b :: x, e, a, h => by
    rcases List.mem_cons.mp h with rfl | h
    · exact e.1
    · exact El.nn e.2.2 a h
  | [], _ :: _, e, _, _ => e.elim
  | _ :: _, [], e, _, _ => e.elim
theorem El.sm : ∀ {w x : List Int}, Sm w → El w x → ∀ a ∈ x, sml a = true
  | [], [], _, _, a, h => by cases h
  | n :: w, b :: x, hw, e, a, h => by
    have := hw.le n List.mem_cons_self
    rcases List.mem_cons.mp h with rfl | h
    · exact sml_of_le e.1 (by have := e.2.1; omega)
    · exact El.sm ⟨fun m z => hw.pos m (List.mem_cons_of_mem _ z), fun m z => hw.le m (List.mem_cons_of_mem _ z)⟩ e.2.2 a h
  | [], _ :: _, _, e, _, _ => e.elim
  | _ :: _, [], _, e, _, _ => e.elim
theorem order_ok {w x : List Int} (hw : Sm w) (hx : ∀ a ∈ x, 0 ≤ a) : S_order_of [tupI w, tupI x] = some (.int (ordW w x)) := by
  obtain ⟨t3, t4, t5, e⟩ := order_loop (W := tupI w) (X := tupI x) (zip2I x w) 1 .no .no .no (by omega) (okP_of hw hx)
  refine sof_rt (p := p0) rfl (ev_seq (s1 := [.fz (tupI w), .fz (tupI x), .fz (.int 1), .no, .no, .no]) (p1 := p0) rfl (ev_seq (p1 := p0) (ev_for (p1 := p0) (ev_callL (p1 := p0) rfl ?_) e) (ev_ret rfl)))
  show some (zipD2 (x.map D.int) (w.map D.int)) = _
  rw [zipD2_map]

theorem mulW_cons (n : Int) (w : List Int) (k a : Int) (x : List Int) : mulW (n :: w) k (a :: x) = k * a % n :: mulW w k x := rfl
theorem addW_cons (n : Int) (w : List Int) (a b : Int) (x y : List Int) : addW (n :: w) (a :: x) (b :: y) = (a + b) % n :: addW w x y := rfl
theorem zeroW_cons (n : Int) (w : List Int) : zeroW (n :: w) = 0 :: zeroW w := rfl
theorem Sm.tl {n : Int} {w : List Int} (h : Sm (n :: w)) : Sm w := ⟨fun m z => h.pos m (List.mem_cons_of_mem _ z), fun m z => h.le m (List.mem_cons_of_mem _ z)⟩
theorem Sm.hd {n : Int} {w : List Int} (h : Sm (n :: w)) : 1 ≤ n ∧ n ≤ 1000000 := ⟨h.pos n List.mem_cons_self, h.le n List.mem_cons_self⟩
theorem el_zero : ∀ {w : List Int}, Sm w → El w (zeroW w)
  | [], _ => trivial
  | n :: w, h => ⟨Int.le_refl 0, by show (0 : Int) < n; have := h.hd; omega, el_zero h.tl⟩
theorem el_mul : ∀ {w x : List Int} (k : Int), Sm w → El w x → El w (mulW w k x)
  | [], [], k, _, _ => trivial
  | n :: w, a :: x, k, h, e => ⟨Int.emod_nonneg _ (by show n ≠ 0; have := h.hd; omega), Int.emod_lt_of_pos _ (by show 0 < n; have := h.hd; omega), el_mul k h.tl e.2.2⟩
  | [], _ :: _, _, _, e => e.elim
  | _ :: _, [], _, _, e => e.elim
theorem el_add : ∀ {w x y : List Int}, Sm w → El w x → El w y → El w (addW w x y)
  | [], [], [], _, _, _ => trivial
  | n :: w, a :: x, b :: y, h, e, f => ⟨Int.emod_nonneg _ (by show n ≠ 0; have := h.hd; omega), Int.emod_lt_of_pos _ (by show 0 < n; have := h.hd; omega), el_add h.tl e.2.2 f.2.2⟩
  | [], _ :: _, _, _, e, _ => e.elim
  | _ :: _, [], _, _, e, _ => e.elim
  | [], [], _ :: _, _, _, f => f.elim
  | _ :: _, _ :: _, [], _, _, f => f.elim
theorem emod_mul_r (j b n : Int) : j * (b % n) % n = j * b % n := by
  rw [Int.mul_emod, Int.emod_emod_of_dvd _ (Int.dvd_refl n), ← Int.mul_emod]
theorem emod_add_2 (a b n : Int) : (a % n + b % n) % n = (a + b) % n := (Int.add_emod a b n).symm
theorem mul_mul : ∀ {w x : List Int} (j k : Int), El w x → mulW w j (mulW w k x) = mulW w (j * k) x
  | [], [], _, _, _ => rfl
  | n :: w, a :: x, j, k, e => by
    rw [mulW_cons, mulW_cons, mulW_cons, mul_mul j k e.2.2, emod_mul_r, Int.mul_assoc]
  | [], _ :: _, _, _, e => e.elim
  | _ :: _, [], _, _, e => e.elim
theorem add_mul : ∀ {w x : List Int} (j k : Int), El w x → addW w (mulW w j x) (mulW w k x) = mulW w (j + k) x
  | [], [], _, _, _ => rfl
  | n :: w, a :: x, j, k, e => by
    rw [mulW_cons, mulW_cons, mulW_cons, addW_cons, add_mul j k e.2.2, emod_add_2, Int.add_mul]
  | [], _ :: _, _, _, e => e.elim
  | _ :: _, [], _, _, e => e.elim
theorem mul_add : ∀ {w x y : List Int} (k : Int), El w x → El w y → mulW w k (addW w x y) = addW w (mulW w k x) (mulW w k y)
  | [], [], [], _, _, _ => rfl
  | n :: w, a :: x, b :: y, k, e, f => by
    rw [mulW_cons, mulW_cons, addW_cons, addW_cons, mulW_cons, mul_add k e.2.2 f.2.2, emod_mul_r, emod_add_2, Int.mul_add]
  | [], _ :: _, _, _, e, _ => e.elim
  | _ :: _, [], _, _, e, _ => e.elim
  | [], [], _ :: _, _, _, f => f.elim
  | _ :: _, _ :: _, [], _, _, f => f.elim
theorem mul_one : ∀ {w x : List Int}, El w x → mulW w 1 x = x
  | [], [], _ => rfl
  | n :: w, a :: x, e => by
    rw [mulW_cons, mul_one e.2.2, Int.one_mul, Int.emod_eq_of_lt e.1 e.2.1]
  | [], _ :: _, e => e.elim
  | _ :: _, [], e => e.elim
theorem mul_zero : ∀ {w x : List Int}, El w x → mulW w 0 x = zeroW w
  | [], [], _ => rfl
  | n :: w, a :: x, e => by
    rw [mulW_cons, mul_zero e.2.2, zeroW_cons, Int.zero_mul, Int.zero_emod]
  | [], _ :: _, e => e.elim
  | _ :: _, [], e => e.elim
theorem add_zero : ∀ {w x : List Int}, El w x → addW w x (zeroW w) = x
  | [], [], _ => rfl
  | n :: w, a :: x, e => by
    rw [zeroW_cons, addW_cons, add_zero e.2.2, Int.add_zero, Int.emod_eq_of_lt e.1 e.2.1]
  | [], _ :: _, e => e.elim
  | _ :: _, [], e => e.elim
theorem zero_add : ∀ {w x : List Int}, El w x → addW w (zeroW w) x = x
  | [], [], _ => rfl
  | n :: w, a :: x, e => by
    rw [zeroW_cons, addW_cons, zero_add e.2.2, Int.zero_add, Int.emod_eq_of_lt e.1 e.2.1]
  | [], _ :: _, e => e.elim
  | _ :: _, [], e => e.elim
/-- two multiples are one -/
theorem mul_eq_iff : ∀ {w x : List Int} (j k : Int), El w x → (mulW w j x = mulW w k x ↔ ∀ t ∈ zip2I x w, t.2 ∣ (j - k) * t.1)
  | [], [], _, _, _ => by simp [mulW, zip2I]
  | n :: w, a :: x, j, k, e => by
    rw [mulW_cons, mulW_cons]
    have ih := mul_eq_iff j k e.2.2
    have e1 : j * a % n = k * a % n ↔ n ∣ (j - k) * a := by
      rw [Int.sub_mul]
      exact Int.emod_eq_emod_iff_emod_sub_eq_zero.trans ⟨fun h => Int.dvd_of_emod_eq_zero h, fun h => Int.emod_eq_zero_of_dvd h⟩
    constructor
    · intro h t m
      rw [List.cons.injEq] at h
      rcases List.mem_cons.mp m with rfl | m
      · exact e1.mp h.1
      · exact ih.mp h.2 t m
    · intro h
      rw [List.cons.injEq]
      exact ⟨e1.mpr (h (a, n) List.mem_cons_self), ih.mpr fun t m => h t (List.mem_cons_of_mem _ m)⟩
  | [], _ :: _, _, _, e => e.elim
  | _ :: _, [], _, _, e => e.elim
/-- the order of an element -/
theorem ord_spec {w x : List Int} (hw : Sm w) (e : El w x) (j k : Int) : mulW w j x = mulW w k x ↔ ordW w x ∣ j - k := by
  rw [mul_eq_iff j k e, show ordW w x ∣ j - k ↔ _ from ordF_dvd (by omega) (okP_of hw e.nn)]
  exact ⟨fun h => ⟨Int.one_dvd _, h⟩, fun h => h.2⟩
theorem ord_zero {w x : List Int} (hw : Sm w) (e : El w x) (k : Int) : mulW w k x = zeroW w ↔ ordW w x ∣ k := by
  rw [← mul_zero e, ord_spec hw e k 0, Int.sub_zero]
theorem ord_pos {w x : List Int} (hw : Sm w) (e : El w x) : 1 ≤ ordW w x := ordF_pos (by omega) (okP_of hw e.nn)
theorem dvd_antisymm' {a b : Int} (ha : 1 ≤ a) (hb : 1 ≤ b) (h1 : a ∣ b) (h2 : b ∣ a) : a = b :=
  Int.le_antisymm (Int.le_of_dvd (by omega) h1) (Int.le_of_dvd (by omega) h2)
/-- an order is told by what it divides -/
theorem ord_uniq {w x : List Int} (hw : Sm w) (e : El w x) {m : Int} (hm : 1 ≤ m) (h : ∀ k, mulW w k x = zeroW w ↔ m ∣ k) : ordW w x = m :=
  dvd_antisymm' (ord_pos hw e) hm ((ord_zero hw e m).mp ((h m).mpr (Int.dvd_refl m))) ((h _).mp ((ord_zero hw e _).mpr (Int.dvd_refl _)))
end PG

namespace PG
open PySem L2 DL
theorem nodup_le {α : Type} [DecidableEq α] : ∀ {l m : List α}, l.Nodup → (∀ x ∈ l, x ∈ m) → l.length ≤ m.length
  | [], m, _, _ => Nat.zero_le _
  | x :: l, m, h, s => by
    obtain ⟨h1, h2⟩ := List.nodup_cons.mp h
    have hx := s x List.mem_cons_self
    have ih := nodup_le (m := m.erase x) h2 fun y my => (List.mem_erase_of_ne (fun z => h1 (by rw [← z]; exact my))).mpr (s y (List.mem_cons_of_mem _ my))
    rw [List.length_erase_of_mem hx] at ih
    have := List.length_pos_of_mem hx
    rw [List.length_cons]
    omega
/-- all elements, in Python's order -/
def allL : List Int → List (List Int)
  | [] => [[]]
  | n :: w => (up 0 n.toNat).flatMap fun a => (allL w).map (a :: ·)
theorem up_mem : ∀ {c : Nat} {k a : Int}, a ∈ up k c ↔ k ≤ a ∧ a < k + c
  | 0, k, a => by
    simp only [up, List.not_mem_nil, false_iff]
    omega
  | c + 1, k, a => by
    rw [up, List.mem_cons, up_mem]
    push_cast
    omega
theorem allL_mem : ∀ {w x : List Int}, x ∈ allL w ↔ El w x
  | [], [] => by simp [allL, El]
  | [], a :: x => by simp [allL, El]
  | n :: w, [] => by simp [allL, El]
  | n :: w, a :: x => by
    unfold allL
    rw [List.mem_flatMap]
    constructor
    · rintro ⟨b, mb, m⟩
      obtain ⟨y, my, e⟩ := List.mem_map.mp m
      rw [List.cons.injEq] at e
      obtain ⟨rfl, rfl⟩ := e
      have := up_mem.mp mb
      exact ⟨by omega, by omega, allL_mem.mp my⟩
    · rintro ⟨h1, h2, h3⟩
      exact ⟨a, up_mem.mpr ⟨h1, by omega⟩, List.mem_map.mpr ⟨x, allL_mem.mpr h3, rfl⟩⟩
theorem allL_len : ∀ {w : List Int}, (∀ n ∈ w, 1 ≤ n) → ((allL w).length : Int) = prodI w
  | [], _ => rfl
  | n :: w, h => by
    unfold allL
    rw [len_flatMap (k := (allL w).length) fun a _ => by rw [List.length_map], up_len]
    push_cast
    rw [allL_len fun m z => h m (List.mem_cons_of_mem _ z), Int.toNat_of_nonneg (by have := h n List.mem_cons_self; omega)]
    rfl
theorem allL_ne {w : List Int} (h : ∀ n ∈ w, 1 ≤ n) : allL w ≠ [] := fun z => by
  have := allL_len h
  rw [z] at this
  have h2 := prodI_pos h
  simp at this
  omega
theorem app_ok {r : List Int} {x : Int} (h : r.length ≤ 999999) : addD (tupI r) (.tup [.int x]) = some (tupI (r ++ [x])) := by
  show (if (r.map D.int).length + [D.int x].length ≤ 1000000 then some (D.tup (r.map D.int ++ [D.int x])) else none) = _
  rw [if_pos (by rw [List.length_map]; simp; omega), tupI, List.map_append]
  rfl
abbrev bAll : FS := xSet 3 (fLst (fCat (fV 3) (fLst (fLc [5] (fCallL rng1 (fCons (fV 2) fNil)) (gN 5) fYes (fBin addD (fV 4) (fTup (fCons (fV 5) fNil)))))))
theorem all_row {W R : D} {n : Int} (h0 : 0 ≤ n) (hn : n ≤ 1000000) : ∀ (rows found : List (List Int)) (s4 : Sl), (∀ r ∈ rows, r.length ≤ 999999) → found.length + rows.length * n.toNat ≤ 1000000 → ∃ t4,
    forL (gN 4) bAll (rows.map tupI) [.fz W, .fz R, .fz (.int n), .fz (.lst (found.map tupI)), s4, .no] p0 = some (.nx [.fz W, .fz R, .fz (.int n), .fz (.lst ((found ++ rows.flatMap fun r => (up 0 n.toNat).map (fun x => r ++ [x])).map tupI)), t4, .no] p0)
  | [], found, s4, _, _ => ⟨s4, by simp [forL]⟩
  | r :: rows, found, s4, h, hl => by
    rw [List.length_cons, Nat.add_mul, Nat.one_mul] at hl
    have e1 : fLc [5] (fCallL rng1 (fCons (fV 2) fNil)) (gN 5) fYes (fBin addD (fV 4) (fTup (fCons (fV 5) fNil))) [.fz W, .fz R, .fz (.int n), .fz (.lst (found.map tupI)), .fz (tupI r), .no] p0 = some ((up 0 n.toNat).map fun x => tupI (r ++ [x]), p0) := by
      refine ev_lc (p1 := p0) (ds := (up 0 n.toNat).map D.int) (ev_callL (p1 := p0) rfl (rng1_up h0 hn)) rfl ?_
      exact lcL_map fun x m => ⟨[.fz W, .fz R, .fz (.int n), .fz (.lst (found.map tupI)), .fz (tupI r), .fz (.int x)], rfl, ev_bin (p1 := p0) rfl rfl (app_ok (h r List.mem_cons_self))⟩
    have e2 : fCat (fV 3) (fLst (fLc [5] (fCallL rng1 (fCons (fV 2) fNil)) (gN 5) fYes (fBin addD (fV 4) (fTup (fCons (fV 5) fNil))))) [.fz W, .fz R, .fz (.int n), .fz (.lst (found.map tupI)), .fz (tupI r), .no] p0 = some (found.map tupI ++ (up 0 n.toNat).map fun x => tupI (r ++ [x]), p0) := by
      unfold fCat
      show (fLst _ _ _).bind _ = _
      rw [ev_lst e1]
      show (if (found.map tupI).length + ((up 0 n.toNat).map fun x => tupI (r ++ [x])).length ≤ 1000000 then _ else _) = _
      rw [if_pos (by rw [List.length_map, List.length_map, up_len]; omega)]
    have e3 := ev_set (i := 3) (ev_lst e2) (by show 3 < 6; omega)
    obtain ⟨t4, e4⟩ := all_row h0 hn rows (found ++ (up 0 n.toNat).map (fun x => r ++ [x])) (.fz (tupI r)) (fun x m => h x (List.mem_cons_of_mem _ m)) (by rw [List.length_append, List.length_map, up_len]; omega)
    refine ⟨t4, forL_cons (p2 := p0) (s1 := [.fz W, .fz R, .fz (.int n), .fz (.lst (found.map tupI)), .fz (tupI r), .no]) (s2 := [.fz W, .fz R, .fz (.int n), .fz (.lst ((found ++ (up 0 n.toNat).map (fun x => r ++ [x])).map tupI)), .fz (tupI r), .no]) rfl ?_ ?_⟩
    · rw [show bAll = xSet 3 _ from rfl, e3, List.map_append, List.map_map]
      rfl
    · rw [List.flatMap_cons, ← List.append_assoc]
      exact e4
theorem all_eq (n : Int) (w : List Int) (rows : List (List Int)) : (rows.flatMap fun r => (up 0 n.toNat).map (fun x => r ++ [x])).flatMap (fun r => (allL w).map (r ++ ·)) = rows.flatMap fun r => (allL (n :: w)).map (r ++ ·) := by
  rw [show allL (n :: w) = (up 0 n.toNat).flatMap fun a => (allL w).map (a :: ·) from rfl]
  generalize allL w = A
  simp only [List.flatMap_assoc, List.map_flatMap, List.flatMap_map, List.map_map]
  congr 1
  funext r
  congr 1
  funext a
  refine List.map_congr_left fun x _ => ?_
  simp
theorem all_loop {W : D} : ∀ (w : List Int) (rows : List (List Int)) (s2 s3 s4 : Sl) (N : Nat), (∀ n ∈ w, 1 ≤ n ∧ n ≤ 1000000) → (∀ r ∈ rows, r.length + w.length ≤ 999999) → (rows.length : Int) * prodI w ≤ 1000000 → ∃ t2 t3 t4,
    forL (gN 2) (xSeq (xSet 3 (fLst fNil)) (xSeq (xFor (fSeq (fV 1)) (gN 4) bAll) (xSet 1 (fV 3)))) (w.map D.int) [.fz W, .fz (.lst (rows.map tupI)), s2, s3, s4, .no] p0 =
      some (.nx [.fz W, .fz (.lst ((rows.flatMap fun r => (allL w).map (r ++ ·)).map tupI)), t2, t3, t4, .no] p0)
  | [], rows, s2, s3, s4, _, _, _, _ => ⟨s2, s3, s4, by simp [forL, allL]⟩
  | n :: w, rows, s2, s3, s4, N, hw, hr, hl => by
    obtain ⟨h1, h2⟩ := hw n List.mem_cons_self
    have hp : 1 ≤ prodI w := prodI_pos fun m z => (hw m (List.mem_cons_of_mem _ z)).1
    have e : (rows.length : Int) * prodI (n :: w) = (rows.length : Int) * n * prodI w := by show _ * (n * prodI w) = _; rw [Int.mul_assoc]
    rw [e] at hl
    have hc : ((rows.length * n.toNat : Nat) : Int) = (rows.length : Int) * n := by push_cast; rw [Int.toNat_of_nonneg (by omega)]
    have hcap : rows.length * n.toNat ≤ 1000000 := by
      have := Int.mul_le_mul_of_nonneg_left hp (show 0 ≤ (rows.length : Int) * n by rw [← hc]; omega)
      omega
    obtain ⟨t4, e1⟩ := all_row (W := W) (R := .lst (rows.map tupI)) (n := n) (by omega) h2 rows [] s4 (fun r m => by have := hr r m; omega) (by simp; omega)
    rw [List.nil_append] at e1
    obtain ⟨u2, u3, u4, e2⟩ := all_loop w (rows.flatMap fun r => (up 0 n.toNat).map (fun x => r ++ [x])) (.fz (.int n)) (.fz (.lst ((rows.flatMap fun r => (up 0 n.toNat).map (fun x => r ++ [x])).map tupI))) t4 N (fun m z => hw m (List.mem_cons_of_mem _ z)) (fun r m => by
      obtain ⟨q, mq, mr⟩ := List.mem_flatMap.mp m
      obtain ⟨x, mx, rfl⟩ := List.mem_map.mp mr
      have := hr q mq
      rw [List.length_append]
      simp at this ⊢
      omega) (by rw [len_flatMap (k := n.toNat) fun r _ => by rw [List.length_map, up_len], hc]; exact hl)
    refine ⟨u2, u3, u4, forL_cons (p2 := p0) (s1 := [.fz W, .fz (.lst (rows.map tupI)), .fz (.int n), s3, s4, .no]) (s2 := [.fz W, .fz (.lst ((rows.flatMap fun r => (up 0 n.toNat).map (fun x => r ++ [x])).map tupI)), .fz (.int n), .fz (.lst ((rows.flatMap fun r => (up 0 n.toNat).map (fun x => r ++ [x])).map tupI)), t4, .no]) rfl ?_ ?_⟩
    · exact ev_seq (s1 := [.fz W, .fz (.lst (rows.map tupI)), .fz (.int n), .fz (.lst []), s4, .no]) (p1 := p0) rfl (ev_seq (p1 := p0) (ev_for (p1 := p0) (ds := rows.map tupI) rfl e1) rfl)
    · rw [e2, all_eq]
theorem all_ok {w : List Int} (hw : Sm w) (hl : w.length ≤ 999999) (hp : prodI w ≤ 1000000) : S__law_all [tupI w] = some (.lst ((allL w).map tupI)) := by
  obtain ⟨t2, t3, t4, e⟩ := all_loop (W := tupI w) w [[]] .no .no .no 0 (fun n m => ⟨hw.pos n m, hw.le n m⟩) (fun r m => by rw [List.mem_singleton] at m; subst m; simpa using hl) (by simpa using hp)
  refine sof_rt (p := p0) rfl (ev_seq (s1 := [.fz (tupI w), .fz (.lst [tupI []]), .no, .no, .no, .no]) (p1 := p0) rfl (ev_seq (p1 := p0) (ev_for (p1 := p0) (ds := w.map D.int) rfl e) (ev_ret ?_)))
  simp
  rfl
end PG

namespace PG
open PySem L2 DL
/-- what is reached from nothing by adding -/
inductive Reach (w : List Int) (items : List (List Int)) : List Int → Prop
  | zero : Reach w items (zeroW w)
  | step {x it : List Int} : Reach w items x → it ∈ items → Reach w items (addW w x it)
theorem Reach.el {w : List Int} {items : List (List Int)} (hw : Sm w) (hi : ∀ it ∈ items, El w it) {x : List Int} (h : Reach w items x) : El w x := by
  induction h with
  | zero => exact el_zero hw
  | step _ m ih => exact el_add hw ih (hi _ m)
/-- the things found, as marked keys -/
def seenL (found : List (List Int)) : List (D × D) := found.map fun r => (tupI r, .bl true)
def keyI (r : List Int) : List Key := r.map Sum.inl
theorem keyI_D : ∀ r : List Int, (keyI r).map keyD = r.map D.int
  | [] => rfl
  | a :: r => by
    show D.int a :: _ = D.int a :: _
    rw [show List.map keyD (List.map Sum.inl r) = _ from keyI_D r]
theorem kT_tupI (r : List Int) : kT? (tupI r) = some (keyI r) := by
  show keys? (r.map D.int) = _
  rw [← keyI_D, keys?_map]
theorem keyI_inj : ∀ {a b : List Int}, keyI a = keyI b → a = b
  | [], [], _ => rfl
  | [], _ :: _, h => by cases h
  | _ :: _, [], h => by cases h
  | x :: xs, y :: ys, h => by
    rw [keyI, keyI, List.map_cons, List.map_cons, List.cons.injEq] at h
    rw [Sum.inl.inj h.1, keyI_inj h.2]
theorem seen_val (o : List Int) : ∀ found : List (List Int), (valT (seenL found) (keyI o)).isNone = !decide (o ∈ found)
  | [] => rfl
  | r :: found => by
    unfold valT seenL
    rw [List.map_cons, List.find?_cons, kT_tupI]
    by_cases e : r = o
    · subst e
      rw [decide_eq_true rfl]
      simp
    · have e2 : ¬ keyI r = keyI o := fun z => e (keyI_inj z)
      rw [decide_eq_false (fun z => e2 (Option.some.inj z))]
      have ih := seen_val o found
      unfold valT seenL at ih
      rw [ih]
      have : ¬ o = r := fun z => e z.symm
      by_cases e3 : o ∈ found <;> simp [e3, this]
theorem seen_put {o : List Int} {found : List (List Int)} (h : o ∉ found) : putT (seenL found) (keyI o) (.bl true) = seenL (found ++ [o]) := by
  unfold putT
  have : ((seenL found).any fun kv => decide (kT? kv.1 = some (keyI o))) = false := by
    rw [List.any_eq_false]
    intro x m
    obtain ⟨r, mr, rfl⟩ := List.mem_map.mp m
    show ¬ decide (kT? (tupI r) = some (keyI o)) = true
    rw [kT_tupI]
    simp only [Option.some.injEq, decide_eq_true_eq]
    exact fun z => h (by rw [← keyI_inj z]; exact mr)
  rw [if_neg (by rw [this]; exact Bool.false_ne_true), keyI_D]
  unfold seenL
  rw [List.map_append]
  rfl
abbrev bAdd : FS := (xSeq (xSet 6 (thE (fCall S_plus (fCons (fV 0) (fCons (fBin ixD (fV 2) (fV 4)) (fCons (fV 5) fNil))))))
 (xIf (fDIn 3 true (fV 6))
 (xSeq (xDPut 3 (fV 6) (fC (.bl true)))
 (xApp 2 (fV 6)))
 xNx))
/-- one round: all that is added to one thing -/
def addAll (w cur : List Int) : List (List Int) → List (List Int) → List (List Int)
  | [], found => found
  | it :: items, found => addAll w cur items (if addW w cur it ∈ found then found else found ++ [addW w cur it])
structure Grow (w cur : List Int) (items found found' : List (List Int)) : Prop where
  pre : ∃ more, found' = found ++ more
  nd : found.Nodup → found'.Nodup
  has : ∀ it ∈ items, addW w cur it ∈ found'
  only : ∀ x ∈ found', x ∈ found ∨ ∃ it ∈ items, x = addW w cur it
theorem addAll_ok (w cur : List Int) : ∀ (items found : List (List Int)), Grow w cur items found (addAll w cur items found)
  | [], found => ⟨⟨[], (List.append_nil _).symm⟩, fun h => h, fun it m => (by cases m), fun x m => .inl m⟩
  | it :: items, found => by
    unfold addAll
    split
    · rename_i hm
      obtain ⟨⟨more, e⟩, g2, g3, g4⟩ := addAll_ok w cur items found
      refine ⟨⟨more, e⟩, g2, fun x m => ?_, fun x m => ?_⟩
      · rcases List.mem_cons.mp m with rfl | m
        · rw [e]; exact List.mem_append_left _ hm
        · exact g3 x m
      · rcases g4 x m with h | ⟨i, mi, h⟩
        · exact .inl h
        · exact .inr ⟨i, List.mem_cons_of_mem _ mi, h⟩
    · rename_i hm
      obtain ⟨⟨more, e⟩, g2, g3, g4⟩ := addAll_ok w cur items (found ++ [addW w cur it])
      refine ⟨⟨addW w cur it :: more, by rw [e]; simp⟩, fun h => g2 ?_, fun x m => ?_, fun x m => ?_⟩
      · rw [List.nodup_append]
        refine ⟨h, by simp, fun a ma b mb => ?_⟩
        rw [List.mem_singleton] at mb
        subst mb
        exact fun z => hm (z ▸ ma)
      · rcases List.mem_cons.mp m with rfl | m
        · rw [e]; exact List.mem_append_left _ (List.mem_append_right _ (List.mem_singleton.mpr rfl))
        · exact g3 x m
      · rcases g4 x m with h | ⟨i, mi, h⟩
        · rcases List.mem_append.mp h with h | h
          · exact .inl h
          · rw [List.mem_singleton] at h
            exact .inr ⟨it, List.mem_cons_self, h⟩
        · exact .inr ⟨i, List.mem_cons_of_mem _ mi, h⟩
theorem imm_bl (b : Bool) : (D.bl b).imm = true := rfl
theorem add_step {w cur it : List Int} {items : D} {at' : Nat} {found : List (List Int)} (hw : Sm w) (hcur : found[at']? = some cur) (hl : found.length < 1000000) (s6 : Sl) : ∃ t6,
    bAdd [.fz (tupI w), .fz items, .ol (found.map tupI), .od 1 (seenL found), .fz (.int at'), .fz (tupI it), s6] p0 =
      some (.nx [.fz (tupI w), .fz items, .ol ((if addW w cur it ∈ found then found else found ++ [addW w cur it]).map tupI), .od 1 (seenL (if addW w cur it ∈ found then found else found ++ [addW w cur it])), .fz (.int at'), .fz (tupI it), t6] p0) := by
  have hlt : at' < found.length := (List.getElem?_eq_some_iff.mp hcur).1
  have e1 : thE (fCall S_plus (fCons (fV 0) (fCons (fBin ixD (fV 2) (fV 4)) (fCons (fV 5) fNil)))) [.fz (tupI w), .fz items, .ol (found.map tupI), .od 1 (seenL found), .fz (.int at'), .fz (tupI it), s6] p0 = some (tupI (addW w cur it), p0) := by
    refine ev_thE (ev_call (p1 := p0) (ev_cons (p1 := p0) rfl (ev_cons (p1 := p0) (ev_bin (p1 := p0) (x := .lst (found.map tupI)) (y := .int at') (z := tupI cur) rfl rfl ?_) (ev_cons (p1 := p0) rfl rfl))) (plus_ok hw)) (imm_tupI _)
    show atI (found.map tupI) (at' : Int) = _
    rw [atI_pos (by omega) (by rw [List.length_map]; omega), Int.toNat_natCast, List.getElem?_map, hcur]
    rfl
  have e2 := ev_set (i := 6) e1 (by show 6 < 7; omega)
  have e3 : fDIn 3 true (fV 6) [.fz (tupI w), .fz items, .ol (found.map tupI), .od 1 (seenL found), .fz (.int at'), .fz (tupI it), .fz (tupI (addW w cur it))] p0 = some (!decide (addW w cur it ∈ found), p0) := by
    show (kT? (tupI (addW w cur it))).map (fun k => ((valT (seenL found) k).isNone, p0)) = _
    rw [kT_tupI, Option.map_some, seen_val]
  by_cases hm : addW w cur it ∈ found
  · refine ⟨.fz (tupI (addW w cur it)), ev_seq e2 (ev_ifF (p1 := p0) ?_ ?_)⟩
    · rw [show ([Sl.fz (tupI w), .fz items, .ol (found.map tupI), .od 1 (seenL found), .fz (.int at'), .fz (tupI it), s6].set 6 (.fz (tupI (addW w cur it)))) = [.fz (tupI w), .fz items, .ol (found.map tupI), .od 1 (seenL found), .fz (.int at'), .fz (tupI it), .fz (tupI (addW w cur it))] from rfl, e3, decide_eq_true hm]
      rfl
    · rw [if_pos hm]
      rfl
  · refine ⟨.fz (tupI (addW w cur it)), ev_seq e2 (ev_ifT (p1 := p0) ?_ ?_)⟩
    · rw [show ([Sl.fz (tupI w), .fz items, .ol (found.map tupI), .od 1 (seenL found), .fz (.int at'), .fz (tupI it), s6].set 6 (.fz (tupI (addW w cur it)))) = [.fz (tupI w), .fz items, .ol (found.map tupI), .od 1 (seenL found), .fz (.int at'), .fz (tupI it), .fz (tupI (addW w cur it))] from rfl, e3, decide_eq_false hm]
      rfl
    · rw [if_neg hm]
      refine ev_seq (s1 := [.fz (tupI w), .fz items, .ol (found.map tupI), .od 1 (seenL (found ++ [addW w cur it])), .fz (.int at'), .fz (tupI it), .fz (tupI (addW w cur it))]) (p1 := p0) ?_ ?_
      · have := ev_dput (i := 3) (fk := fV 6) (fv := fC (.bl true)) (s := [.fz (tupI w), .fz items, .ol (found.map tupI), .od 1 (seenL found), .fz (.int at'), .fz (tupI it), .fz (tupI (addW w cur it))]) (p := p0) (p1 := p0) (p2 := p0) (kvs := seenL found) rfl rfl rfl (kT_tupI _) (by rw [seenL, List.length_map]; exact hl)
        rw [seen_put hm] at this
        exact this
      · have := ev_app (i := 2) (fe := fV 6) (s := [.fz (tupI w), .fz items, .ol (found.map tupI), .od 1 (seenL (found ++ [addW w cur it])), .fz (.int at'), .fz (tupI it), .fz (tupI (addW w cur it))]) (p := p0) (p1 := p0) (xs := found.map tupI) rfl rfl (by rw [List.length_map]; exact hl)
        rw [List.map_append]
        exact this
theorem add_loop {w cur : List Int} {itemsD : D} {at' : Nat} (hw : Sm w) : ∀ (items found : List (List Int)) (s5 s6 : Sl), found[at']? = some cur → found.length + items.length < 1000000 → ∃ t5 t6,
    forL (gN 5) bAdd (items.map tupI) [.fz (tupI w), .fz itemsD, .ol (found.map tupI), .od 1 (seenL found), .fz (.int at'), s5, s6] p0 =
      some (.nx [.fz (tupI w), .fz itemsD, .ol ((addAll w cur items found).map tupI), .od 1 (seenL (addAll w cur items found)), .fz (.int at'), t5, t6] p0)
  | [], found, s5, s6, _, _ => ⟨s5, s6, rfl⟩
  | it :: items, found, s5, s6, hc, hl => by
    rw [List.length_cons] at hl
    obtain ⟨t6, e1⟩ := add_step (it := it) (items := itemsD) hw hc (by omega) s6
    have hc2 : (if addW w cur it ∈ found then found else found ++ [addW w cur it])[at']? = some cur := by
      split
      · exact hc
      · rw [List.getElem?_append_left (List.getElem?_eq_some_iff.mp hc).1]
        exact hc
    have hl2 : (if addW w cur it ∈ found then found else found ++ [addW w cur it]).length ≤ found.length + 1 := by
      split <;> simp
    obtain ⟨u5, u6, e2⟩ := add_loop (itemsD := itemsD) hw items _ (.fz (tupI it)) t6 hc2 (by omega)
    exact ⟨u5, u6, forL_cons (p2 := p0) (s1 := [.fz (tupI w), .fz itemsD, .ol (found.map tupI), .od 1 (seenL found), .fz (.int at'), .fz (tupI it), s6]) rfl e1 e2⟩
/-- what stands when all up to a place have been added to -/
structure Half (w : List Int) (items : List (List Int)) (found : List (List Int)) (at' : Nat) : Prop where
  nd : found.Nodup
  zero : zeroW w ∈ found
  only : ∀ x ∈ found, Reach w items x
  has : ∀ (i : Nat) x, i < at' → found[i]? = some x → ∀ it ∈ items, addW w x it ∈ found
theorem made_loop {w : List Int} {items : List (List Int)} (hw : Sm w) (hi : ∀ it ∈ items, El w it) (hsz : (allL w).length + items.length < 1000000) : ∀ (c at' : Nat) (found : List (List Int)) (s5 s6 : Sl), Half w items found at' → at' + c = (allL w).length → ∃ (found' : List (List Int)) (n : Nat) (t5 t6 : Sl), Half w items found' n ∧ found'.length ≤ n ∧
    whN (c + 1) (thT (fTst (fBin ltD (fV 4) (fCall lenD (fCons (fV 2) fNil))))) (xSeq (xFor (fSeq (fV 1)) (gN 5) bAdd) (xAug 4 (i2 fun a b => a + b) (fC (.int 1)))) [.fz (tupI w), .fz (.tup (items.map tupI)), .ol (found.map tupI), .od 1 (seenL found), .fz (.int at'), s5, s6] p0 =
      some (.nx [.fz (tupI w), .fz (.tup (items.map tupI)), .ol (found'.map tupI), .od 1 (seenL found'), .fz (.int n), t5, t6] p0) := by
  intro c
  have bound : ∀ {found : List (List Int)} {at' : Nat}, Half w items found at' → found.length ≤ (allL w).length := fun h => nodup_le h.nd fun x m => allL_mem.mpr ((h.only x m).el hw hi)
  have tst : ∀ (found : List (List Int)) (at' : Nat) (s5 s6 : Sl) (b : Bool), decide (at' < found.length) = b → thT (fTst (fBin ltD (fV 4) (fCall lenD (fCons (fV 2) fNil)))) [.fz (tupI w), .fz (.tup (items.map tupI)), .ol (found.map tupI), .od 1 (seenL found), .fz (.int at'), s5, s6] p0 = some (b, p0) := fun found at' s5 s6 b hb => by
    refine ev_thT (ev_tst (ev_bin (p1 := p0) (x := .int at') (y := .int ((found.map tupI).length : Nat)) rfl rfl ?_))
    show some (D.bl (decide ((at' : Int) < ((found.map tupI).length : Int)))) = _
    rw [List.length_map, ← hb]
    congr 2
    exact decide_eq_decide.mpr (by omega)
  induction c with
  | zero =>
    intro at' found s5 s6 h hc
    have := bound h
    exact ⟨found, at', s5, s6, h, by omega, whN_end (tst found at' s5 s6 false (decide_eq_false (by omega)))⟩
  | succ c ih =>
    intro at' found s5 s6 h hc
    by_cases hlt : at' < found.length
    · obtain ⟨cur, hcur⟩ : ∃ cur, found[at']? = some cur := ⟨found[at'], List.getElem?_eq_getElem hlt⟩
      have hb := bound h
      obtain ⟨t5, t6, e1⟩ := add_loop (itemsD := .tup (items.map tupI)) hw items found s5 s6 hcur (by omega)
      obtain ⟨⟨more, em⟩, g2, g3, g4⟩ := addAll_ok w cur items found
      have hcr : Reach w items cur := h.only cur (List.mem_of_getElem? hcur)
      have h2 : Half w items (addAll w cur items found) (at' + 1) := by
        refine ⟨g2 h.nd, by rw [em]; exact List.mem_append_left _ h.zero, fun x m => ?_, fun i x hi2 hx it mi => ?_⟩
        · rcases g4 x m with m | ⟨it, mi, rfl⟩
          · exact h.only x m
          · exact .step hcr mi
        · have hil : i < found.length := by omega
          rw [em, List.getElem?_append_left hil] at hx
          by_cases hia : i = at'
          · subst hia
            rw [hcur] at hx
            cases hx
            exact g3 it mi
          · rw [em]
            exact List.mem_append_left _ (h.has i x (by omega) hx it mi)
      obtain ⟨found', n, u5, u6, q1, q2, q3⟩ := ih (at' + 1) _ t5 t6 h2 (by omega)
      refine ⟨found', n, u5, u6, q1, q2, whN_step (p1 := p0) (p2 := p0) (tst found at' s5 s6 true (decide_eq_true hlt)) (ev_seq (p1 := p0) (ev_for (p1 := p0) (ds := items.map tupI) rfl e1) ?_) q3⟩
      rfl
    · exact ⟨found, at', s5, s6, h, by omega, whN_end (tst found at' s5 s6 false (decide_eq_false hlt))⟩
theorem len_zeroW (w : List Int) : (zeroW w).length = w.length := by simp [zeroW]
/-- THE GROUP MADE: sorted, each once, just what is reached -/
theorem made_ok {w : List Int} {items : List (List Int)} (hw : Sm w) (hl : w.length ≤ 1000) (hi : ∀ it ∈ items, El w it) (hsz : (allL w).length + items.length < 1000000) : ∃ rows : List (List Int), S_made_by [tupI w, .tup (items.map tupI)] = some (.tup (rows.map tupI)) ∧ rows.Nodup ∧
    (rows.Pairwise fun a b => HT.lexLt b a = false) ∧ ∀ x, x ∈ rows ↔ Reach w items x := by
  have h0 : Half w items [zeroW w] 0 := ⟨by simp, List.mem_singleton.mpr rfl, fun x m => by
    rw [List.mem_singleton] at m
    subst m
    exact .zero, fun i x hi => by omega⟩
  obtain ⟨found, n, t5, t6, q1, q2, q3⟩ := made_loop hw hi hsz (allL w).length 0 [zeroW w] .no .no h0 (by omega)
  refine ⟨sortL found, sof_rt (p := p0) rfl ?_, (sortL_perm found).nodup_iff.mpr q1.nd, (sortL_sorted found).imp fun h => by unfold lexLe at h; simpa using h, fun x => ?_⟩
  · refine ev_seq (p1 := p0) (s1 := [.fz (tupI w), .fz (.tup (items.map tupI)), .ol ([zeroW w].map tupI), .no, .no, .no, .no]) (ev_own (i := 2) (p1 := p0) (ds := [tupI (zeroW w)]) (ev_cons (p1 := p0) (ev_call (p1 := p0) rfl (nought_ok hl)) rfl) (by show 2 < 7; omega)) ?_
    refine ev_seq (p1 := p0) (s1 := [.fz (tupI w), .fz (.tup (items.map tupI)), .ol ([zeroW w].map tupI), .od 1 (seenL [zeroW w]), .no, .no, .no]) ?_ ?_
    · have := ev_disp1 (i := 3) (fk := thE (fBin ixD (fV 2) (fC (.int 0)))) (fv := fC (.bl true)) (s := [.fz (tupI w), .fz (.tup (items.map tupI)), .ol ([zeroW w].map tupI), .no, .no, .no, .no]) (p := p0) (p1 := p0) (p2 := p0) (v := .bl true) (ev_thE (d := tupI (zeroW w)) rfl (imm_tupI _)) rfl (kT_tupI _) (by show 3 < 7; omega)
      rw [keyI_D] at this
      exact this
    · refine ev_seq (p1 := p0) (s1 := [.fz (tupI w), .fz (.tup (items.map tupI)), .ol ([zeroW w].map tupI), .od 1 (seenL [zeroW w]), .fz (.int 0), .no, .no]) rfl ?_
      refine ev_seq (p1 := p0) (xWh_of _ q3 (by omega)) ?_
      refine ev_retTh (ev_call (p1 := p0) (xs := [.lst ((sortL found).map tupI)]) (ev_cons (p1 := p0) (ev_lst (ev_callL (p1 := p0) (xs := [.lst (found.map tupI)]) rfl ?_)) rfl) rfl)
      show (rowsI? (found.map tupI)).bind _ = _
      rw [rowsI?_rows, Option.bind_some, if_pos]
      cases hw0 : w with
      | nil =>
        have : found.length ≤ 1 := by
          have := nodup_le (m := [[]]) q1.nd fun x m => by
            have := (q1.only x m).el hw hi
            rw [hw0] at this
            cases x with
            | nil => simp
            | cons _ _ => exact this.elim
          simpa using this
        rw [decide_eq_true this]
        rfl
      | cons a r =>
        rw [Bool.or_eq_true]
        refine .inr (List.all_eq_true.mpr fun x m => ?_)
        have := ((q1.only x m).el hw hi).len
        rw [hw0] at this
        cases x with
        | nil => simp at this
        | cons _ _ => rfl
  · rw [(sortL_perm found).mem_iff]
    refine ⟨q1.only x, fun h => ?_⟩
    induction h with
    | zero => exact q1.zero
    | @step y it _ mi ih =>
      obtain ⟨i, hi2, hy⟩ := List.getElem_of_mem ih
      exact q1.has i y (by omega) (by rw [List.getElem?_eq_getElem hi2, hy]) it mi
end PG

namespace PG
open PySem L2 DL
def stripR : Nat → Nat → Nat → Option Nat
  | 0, _, _ => none
  | f + 1, n, p => cond (Nat.beq (n % p) 0) (stripR f (n / p) p) (some n)
def pfR : Nat → Nat → Nat → List Nat → Option (List Nat)
  | 0, _, _, _ => none
  | f + 1, n, p, acc => cond (Nat.ble n 1) (some acc) (cond (Nat.beq (n % p) 0) ((stripR 200 n p).bind fun m => pfR f m (p + 1) (acc ++ [p])) (pfR f n (p + 1) acc))
def partR : Nat → Nat → Nat → Nat → Option Nat
  | 0, _, _, _ => none
  | f + 1, n, p, found => cond (Nat.beq (n % (found * p)) 0) (partR f n p (found * p)) (some found)
theorem int_mod {a b : Nat} : ((a : Int) % (b : Int)) = ((a % b : Nat) : Int) := rfl
theorem eqD_mod0 {a b : Nat} : eqD (.int ((a : Int) % (b : Int))) (.int 0) = some (.bl (Nat.beq (a % b) 0)) := by
  rw [eqD_int, int_mod]
  congr 2
  by_cases h : a % b = 0
  · rw [h]; rfl
  · rw [decide_eq_false (by omega)]
    cases e : Nat.beq (a % b) 0 with
    | false => rfl
    | true => exact absurd (Nat.eq_of_beq_eq_true e) h
theorem strip_run {L : Sl} {p : Nat} (hp : 2 ≤ p) (hp2 : p < 1000000) : ∀ {f n m : Nat}, stripR f n p = some m →
    whN f (fTst (fBin eqD (fBin modD (fV 0) (fV 2)) (fC (.int 0)))) (xAug 0 divD (fV 2)) [.fz (.int n), L, .fz (.int p)] p0 = some (.nx [.fz (.int m), L, .fz (.int p)] p0)
  | 0, n, m, h => by cases h
  | f + 1, n, m, h => by
    have tst : fTst (fBin eqD (fBin modD (fV 0) (fV 2)) (fC (.int 0))) [.fz (.int n), L, .fz (.int p)] p0 = some (Nat.beq (n % p) 0, p0) := ev_tst (ev_bin (p1 := p0) (ev_bin (p1 := p0) rfl rfl (modD_pos (by omega))) rfl eqD_mod0)
    unfold stripR at h
    cases hb : Nat.beq (n % p) 0 with
    | true =>
      rw [hb] at h tst
      refine whN_step (p1 := p0) (p2 := p0) tst (s2 := [.fz (.int ((n / p : Nat) : Int)), L, .fz (.int p)]) ?_ (strip_run hp hp2 h)
      exact ev_aug (i := 0) (p1 := p0) rfl rfl (divD_pos (a := (n : Int)) (b := (p : Int)) (by omega) (by omega))
    | false =>
      rw [hb] at h tst
      cases h
      exact whN_end tst
def natsD (l : List Nat) : List D := l.map fun (n : Nat) => D.int (n : Int)
abbrev bPf : FS := (xSeq (xIf (fTst (fBin eqD (fBin modD (fV 0) (fV 2)) (fC (.int 0))))
 (xSeq (xApp 1 (fV 2))
 (xWh (fTst (fBin eqD (fBin modD (fV 0) (fV 2)) (fC (.int 0))))
 (xAug 0 divD (fV 2))))
 xNx)
 (xAug 2 (i2 fun a b => a + b) (fC (.int 1))))
theorem pf_run : ∀ {f n p : Nat} {acc ps : List Nat}, pfR f n p acc = some ps → 2 ≤ p → p + f < 1000000 → acc.length + f < 1000000 → ∃ n' p' : Int,
    whN f (fTst (fBin gtD (fV 0) (fC (.int 1)))) bPf [.fz (.int n), .ol (natsD acc), .fz (.int p)] p0 = some (.nx [.fz (.int n'), .ol (natsD ps), .fz (.int p')] p0)
  | 0, n, p, acc, ps, h, _, _, _ => by cases h
  | f + 1, n, p, acc, ps, h, hp, hp2, hl => by
    have tst0 : fTst (fBin gtD (fV 0) (fC (.int 1))) [.fz (.int n), .ol (natsD acc), .fz (.int p)] p0 = some (decide ((1 : Int) < n), p0) := rfl
    have tst : fTst (fBin eqD (fBin modD (fV 0) (fV 2)) (fC (.int 0))) [.fz (.int n), .ol (natsD acc), .fz (.int p)] p0 = some (Nat.beq (n % p) 0, p0) := ev_tst (ev_bin (p1 := p0) (ev_bin (p1 := p0) rfl rfl (modD_pos (by omega))) rfl eqD_mod0)
    unfold pfR at h
    cases h1 : Nat.ble n 1 with
    | true =>
      rw [h1] at h
      cases h
      have := Nat.le_of_ble_eq_true h1
      exact ⟨n, p, whN_end (by rw [tst0, decide_eq_false (by omega)])⟩
    | false =>
      rw [h1] at h
      have hn : 1 < n := by
        by_cases c : n ≤ 1
        · rw [Nat.ble_eq_true_of_le c] at h1; cases h1
        · omega
      have t0 : fTst (fBin gtD (fV 0) (fC (.int 1))) [.fz (.int n), .ol (natsD acc), .fz (.int p)] p0 = some (true, p0) := by rw [tst0, decide_eq_true (by omega)]
      cases hb : Nat.beq (n % p) 0 with
      | true =>
        rw [hb] at h tst
        change (stripR 200 n p).bind _ = _ at h
        cases hs : stripR 200 n p with
        | none => rw [hs] at h; cases h
        | some m =>
          rw [hs] at h
          change pfR f m (p + 1) (acc ++ [p]) = some ps at h
          obtain ⟨n', p', e⟩ := pf_run h (by omega) (by omega) (by simp; omega)
          refine ⟨n', p', whN_step (p1 := p0) (p2 := p0) t0 (s2 := [.fz (.int m), .ol (natsD (acc ++ [p])), .fz (.int ((p + 1 : Nat) : Int))]) ?_ e⟩
          refine ev_seq (s1 := [.fz (.int m), .ol (natsD (acc ++ [p])), .fz (.int p)]) (p1 := p0) (ev_ifT tst ?_) rfl
          refine ev_seq (s1 := [.fz (.int n), .ol (natsD (acc ++ [p])), .fz (.int p)]) (p1 := p0) ?_ (xWh_of _ (strip_run (by omega) (by omega) hs) (by omega))
          have := ev_app (i := 1) (fe := fV 2) (s := [.fz (.int n), .ol (natsD acc), .fz (.int p)]) (p := p0) (p1 := p0) (xs := natsD acc) rfl rfl (by rw [natsD, List.length_map]; omega)
          rw [show natsD (acc ++ [p]) = natsD acc ++ [D.int (p : Int)] from by simp [natsD]]
          exact this
      | false =>
        rw [hb] at h tst
        change pfR f n (p + 1) acc = some ps at h
        obtain ⟨n', p', e⟩ := pf_run h (by omega) (by omega) (by omega)
        exact ⟨n', p', whN_step (p1 := p0) (p2 := p0) t0 (s2 := [.fz (.int n), .ol (natsD acc), .fz (.int ((p + 1 : Nat) : Int))]) (ev_seq (p1 := p0) (ev_ifF tst rfl) rfl) e⟩
theorem prime_factors_ok {n : Nat} {ps : List Nat} (h : pfR 10000 n 2 [] = some ps) : S_prime_factors [.int n] = some (.lst (natsD ps)) := by
  obtain ⟨n', p', e⟩ := pf_run h (by omega) (by omega) (by simp)
  refine sof_rt (p := p0) rfl (ev_seq (s1 := [.fz (.int n), .ol [], .no]) (p1 := p0) rfl (ev_seq (s1 := [.fz (.int n), .ol [], .fz (.int 2)]) (p1 := p0) rfl (ev_seq (p1 := p0) (xWh_of _ e (by omega)) (ev_retTh rfl))))
theorem part_run {n p : Nat} (hp : 1 ≤ p) (hp2 : p < 1000000) : ∀ {f found m : Nat}, partR f n p found = some m → 1 ≤ found →
    whN f (fTst (fBin eqD (fBin modD (fV 0) (fBin mulD (fV 2) (fV 1))) (fC (.int 0)))) (xAug 2 imulD (fV 1)) [.fz (.int n), .fz (.int p), .fz (.int found)] p0 = some (.nx [.fz (.int n), .fz (.int p), .fz (.int m)] p0)
  | 0, found, m, h, _ => by cases h
  | f + 1, found, m, h, hf => by
    have hfp : 1 ≤ found * p := by have := Nat.mul_le_mul hf hp; omega
    have hs : sml (p : Int) = true := sml_of_le (by omega) (by omega)
    have tst : fTst (fBin eqD (fBin modD (fV 0) (fBin mulD (fV 2) (fV 1))) (fC (.int 0))) [.fz (.int n), .fz (.int p), .fz (.int found)] p0 = some (Nat.beq (n % (found * p)) 0, p0) := by
      refine ev_tst (ev_bin (p1 := p0) (ev_bin (p1 := p0) rfl (ev_bin (p1 := p0) rfl rfl (mulD_r hs)) (modD_pos (by rw [← Int.natCast_mul]; omega))) rfl ?_)
      rw [← Int.natCast_mul]
      exact eqD_mod0
    unfold partR at h
    cases hb : Nat.beq (n % (found * p)) 0 with
    | true =>
      rw [hb] at h tst
      refine whN_step (p1 := p0) (p2 := p0) tst (s2 := [.fz (.int n), .fz (.int p), .fz (.int ((found * p : Nat) : Int))]) ?_ (part_run hp hp2 h hfp)
      exact ev_aug (i := 2) (p1 := p0) rfl rfl (imulD_r (a := (found : Int)) (b := (p : Int)) hs)
    | false =>
      rw [hb] at h tst
      cases h
      exact whN_end tst
theorem part_for_ok {n p m : Nat} (hp : 1 ≤ p) (hp2 : p < 1000000) (h : partR 200 n p 1 = some m) : S_part_for [.int n, .int p] = some (.int m) :=
  sof_rt (p := p0) rfl (ev_seq (s1 := [.fz (.int n), .fz (.int p), .fz (.int 1)]) (p1 := p0) rfl (ev_seq (p1 := p0) (xWh_of 200 (part_run (f := 200) (found := 1) hp hp2 h (Nat.le_refl 1)) (by omega)) (ev_ret rfl)))
theorem lshared_loop : ∀ (b a : Nat), whN (b + 1) (fTst (fBin neD (fV 1) (fC (.int 0)))) (xPar 0 1 (fCons (fV 1) (fCons (fBin modD (fCall intD (fCons (fV 0) fNil)) (fCall intD (fCons (fV 1) fNil))) fNil))) [.fz (.int a), .fz (.int b)] p0 = some (.nx [.fz (.int (Nat.gcd a b : Nat)), .fz (.int 0)] p0) := by
  intro b
  induction b using Nat.strongRecOn with
  | _ b ih =>
    intro a
    by_cases h : b = 0
    · subst h
      rw [Nat.gcd_zero_right]
      exact whN_end (ev_tst (ev_bin (p1 := p0) rfl rfl (by rw [neD_int]; rfl)))
    · have hlt : a % b < b := Nat.mod_lt _ (by omega)
      have e := ih (a % b) hlt b
      have eg : Nat.gcd a b = Nat.gcd b (a % b) := by rw [Nat.gcd_comm a b, Nat.gcd_rec b a, Nat.gcd_comm]
      rw [eg]
      refine whN_step (p1 := p0) (p2 := p0) (ev_tst (b := true) (ev_bin (p1 := p0) rfl rfl ?_)) (ev_par (p1 := p0) (d := .int b) (d' := .int ((a % b : Nat) : Int)) ?_ ⟨by show 0 < 2; omega, by show 1 < 2; omega⟩) (whN_le (show a % b + 1 ≤ b by omega) e)
      · rw [neD_int, decide_eq_false (by omega)]
        rfl
      · exact ev_cons (p1 := p0) rfl (ev_cons (p1 := p0) (ev_bin (p1 := p0) rfl rfl (by rw [modD_pos (by omega)]; rfl)) rfl)
theorem lshared_ok {a b : Int} (ha : 0 ≤ a) (hb : 0 ≤ b) (hb2 : b ≤ 10000000) : S__law_shared [.int a, .int b] = some (.int (gcdI a b)) := by
  have h := lshared_loop b.toNat a.toNat
  rw [show ((a.toNat : Nat) : Int) = a by omega, show ((b.toNat : Nat) : Int) = b by omega] at h
  refine sof_rt (p := p0) rfl (ev_seq (p1 := p0) (xWh_of _ h (by omega)) (ev_ret (ev_call (p1 := p0) rfl ?_)))
  show some (D.int (if ((Nat.gcd a.toNat b.toNat : Nat) : Int) < 0 then _ else _)) = _
  rw [if_neg (by omega)]
  rfl
end PG

namespace K20
open PySem PySem.Spec PyProof.Rows L2 DL PG
def topS (i : Nat) : Stmt := PySem.Challenge.pw_wheelsparted_k20_whole_elements_by_prime.main.body.getD i (.Pass ⟨0, 0, 0, 0⟩)
abbrev s_plus : Stmt := topS 1
theorem sc_plus : FnScope N_plus ["wheels", "one", "two"] (defScope s_plus) := ⟨rfl, rfl, rfl, by decide +kernel, rfl, by decide +kernel, by decide +kernel⟩
theorem ok_plus {P : Program} {w : World} {K : PySem.W.Frag} {mg : Str → Option Value} {base : Heap} {f_plus : Addr} {fd_plus : FuncData} (D_plus : Df K mg "plus" s_plus ["wheels", "one", "two"] f_plus fd_plus) (m_tuple : mg "tuple" = none) (m_zip : mg "zip" = none) : FnOk P w K mg base CX0 1 f_plus fd_plus ["wheels", "one", "two"] (spD K S_plus) := fnDO (g := g_plus) D_plus.F sc_plus rfl fun cdv A outer s H E hr =>
 (ssd_one (sd_ret (ed_ct call_tuple_of sat_tup (by rfl) m_tuple bt_tuple (ad_cons (ed_of (ld_lc (own := [("a", 3), ("b", 4), ("number", 5)]) sc_plus.nd (id_zip3 (by rfl) m_zip (ad_cons (ed_v 1) (ad_cons (ed_v 2) (ad_cons (ed_v 0) ad_nil)))) (blkOk_by (by rfl)) (fun _ _ _ _ _ => (gd_tup (gsd_cons (gd_name (i := 3) sc_plus.nd rfl (by first | exact .inl rfl | exact .inr rfl)) (gsd_cons (gd_name (i := 4) sc_plus.nd rfl (by first | exact .inl rfl | exact .inr rfl)) (gsd_cons (gd_name (i := 5) sc_plus.nd rfl (by first | exact .inl rfl | exact .inr rfl)) gsd_nil))))) (gok_tup (gsok_cons (gok_name 3) (gsok_cons (gok_name 4) (gsok_cons (gok_name 5) gsok_nil)))) (by decide) (fun _ _ _ _ _ => tsd_nil) (fun _ _ _ _ _ => (ed_bin op_modN sat_mod (ed_bin op_addD sat_add (ed_v 3) (ed_v 4)) (ed_v 5))))) ad_nil))))
abbrev s_times_element : Stmt := topS 2
theorem sc_times_element : FnScope N_times_element ["wheels", "k", "one"] (defScope s_times_element) := ⟨rfl, rfl, rfl, by decide +kernel, rfl, by decide +kernel, by decide +kernel⟩
theorem ok_times_element {P : Program} {w : World} {K : PySem.W.Frag} {mg : Str → Option Value} {base : Heap} {f_times_element : Addr} {fd_times_element : FuncData} (D_times_element : Df K mg "times_element" s_times_element ["wheels", "k", "one"] f_times_element fd_times_element) (m_tuple : mg "tuple" = none) (m_zip : mg "zip" = none) : FnOk P w K mg base CX0 1 f_times_element fd_times_element ["wheels", "k", "one"] (spD K S_times_element) := fnDO (g := g_times_element) D_times_element.F sc_times_element rfl fun cdv A outer s H E hr =>
 (ssd_one (sd_ret (ed_ct call_tuple_of sat_tup (by rfl) m_tuple bt_tuple (ad_cons (ed_of (ld_lc (own := [("a", 3), ("number", 4)]) sc_times_element.nd (id_zip2 (by rfl) m_zip (ad_cons (ed_v 2) (ad_cons (ed_v 0) ad_nil))) (blkOk_by (by rfl)) (fun _ _ _ _ _ => (gd_tup (gsd_cons (gd_name (i := 3) sc_times_element.nd rfl (by first | exact .inl rfl | exact .inr rfl)) (gsd_cons (gd_name (i := 4) sc_times_element.nd rfl (by first | exact .inl rfl | exact .inr rfl)) gsd_nil)))) (gok_tup (gsok_cons (gok_name 3) (gsok_cons (gok_name 4) gsok_nil))) (by decide) (fun _ _ _ _ _ => tsd_nil) (fun _ _ _ _ _ => (ed_bin op_modN sat_mod (ed_bin op_mulA sat_mulA (ed_v 1) (ed_v 3)) (ed_v 4))))) ad_nil))))
abbrev s_nought : Stmt := topS 3
theorem sc_nought : FnScope N_nought ["wheels"] (defScope s_nought) := ⟨rfl, rfl, rfl, by decide +kernel, rfl, by decide +kernel, by decide +kernel⟩
theorem ok_nought {P : Program} {w : World} {K : PySem.W.Frag} {mg : Str → Option Value} {base : Heap} {f_nought : Addr} {fd_nought : FuncData} (D_nought : Df K mg "nought" s_nought ["wheels"] f_nought fd_nought) (m_len : mg "len" = none) : FnOk P w K mg base CX0 1 f_nought fd_nought ["wheels"] (spD K S_nought) := fnDO (g := g_nought) D_nought.F sc_nought rfl fun cdv A outer s H E hr =>
 (ssd_one (sd_ret (ed_bin op_mulA sat_mulA (ed_tup (ad_cons ed_int ad_nil) (cnt_cons cnt_nil)) (ed_cb call_len_seq sat_len (by rfl) m_len bt_len (ad_cons (ed_v 0) ad_nil)))))
abbrev s_shared : Stmt := topS 4
theorem sc_shared : FnScope N_shared ["a", "b"] (defScope s_shared) := ⟨rfl, rfl, rfl, by decide +kernel, rfl, by decide +kernel, by decide +kernel⟩
theorem ok_shared {P : Program} {w : World} {K : PySem.W.Frag} {mg : Str → Option Value} {base : Heap} {f_shared : Addr} {fd_shared : FuncData} (D_shared : Df K mg "shared" s_shared ["a", "b"] f_shared fd_shared) (m_abs : mg "abs" = none) : FnOk P w K mg base CX0 1 f_shared fd_shared ["a", "b"] (spD K S_shared) := fnDO (g := g_shared) D_shared.F sc_shared rfl fun cdv A outer s H E hr =>
 (ssd_cons (sd_while (td_cmp (op_neD (u64 hr)) sat_ne (ed_v 1) ed_int)
 (ssd_one (sd_par (i := 0) (j := 1) sc_shared.nd rfl rfl (by decide) rfl rfl (ad_cons (ed_v 1) (ad_cons (ed_bin op_modN sat_mod (ed_v 0) (ed_v 1)) ad_nil)) rfl)))
 (ssd_one (sd_ret (ed_cb call_abs sat_abs (by rfl) m_abs bt_abs (ad_cons (ed_v 0) ad_nil)))))
abbrev s_order_of : Stmt := topS 5
theorem sc_order_of : FnScope N_order_of ["wheels", "one"] (defScope s_order_of) := ⟨rfl, rfl, rfl, by decide +kernel, rfl, by decide +kernel, by decide +kernel⟩
theorem ok_order_of {P : Program} {w : World} {K : PySem.W.Frag} {mg : Str → Option Value} {base : Heap} {f_order_of : Addr} {fd_order_of : FuncData} {f_shared : Addr} {fd_shared : FuncData} (D_order_of : Df K mg "order_of" s_order_of ["wheels", "one"] f_order_of fd_order_of) (D_shared : Df K mg "shared" s_shared ["a", "b"] f_shared fd_shared) (G_shared : FnOk P w K mg base CX0 1 f_shared fd_shared ["a", "b"] (spD K S_shared)) (m_zip : mg "zip" = none) : FnOk P w K mg base CX0 2 f_order_of fd_order_of ["wheels", "one"] (spD K S_order_of) := fnDO (g := g_order_of) D_order_of.F sc_order_of rfl fun cdv A outer s H E hr =>
 (ssd_cons (sd_set (i := 2) sc_order_of.nd rfl (by first | exact .inl rfl | exact .inr rfl) ed_int)
 (ssd_cons (sd_for (id_zip2 (by rfl) m_zip (ad_cons (ed_v 1) (ad_cons (ed_v 0) ad_nil))) (gd_tup (gsd_cons (gd_name (i := 3) sc_order_of.nd rfl (by first | exact .inl rfl | exact .inr rfl)) (gsd_cons (gd_name (i := 4) sc_order_of.nd rfl (by first | exact .inl rfl | exact .inr rfl)) gsd_nil)))
 (ssd_cons (sd_set (i := 5) sc_order_of.nd rfl (by first | exact .inl rfl | exact .inr rfl) (ed_bin op_divD sat_div (ed_v 4) (ed_call G_shared (hr.mono (by decide)) (by rfl) D_shared.g D_shared.F.kp D_shared.b (ad_cons (ed_v 3) (ad_cons (ed_v 4) ad_nil)))))
 (ssd_one (sd_set (i := 2) sc_order_of.nd rfl (by first | exact .inl rfl | exact .inr rfl) (ed_bin op_divD sat_div (ed_bin op_mulA sat_mulA (ed_v 2) (ed_v 5)) (ed_call G_shared (hr.mono (by decide)) (by rfl) D_shared.g D_shared.F.kp D_shared.b (ad_cons (ed_v 2) (ad_cons (ed_v 5) ad_nil))))))))
 (ssd_one (sd_ret (ed_v 2)))))
abbrev s_exponent_of : Stmt := topS 6
theorem sc_exponent_of : FnScope N_exponent_of ["wheels"] (defScope s_exponent_of) := ⟨rfl, rfl, rfl, by decide +kernel, rfl, by decide +kernel, by decide +kernel⟩
theorem ok_exponent_of {P : Program} {w : World} {K : PySem.W.Frag} {mg : Str → Option Value} {base : Heap} {f_exponent_of : Addr} {fd_exponent_of : FuncData} (D_exponent_of : Df K mg "exponent_of" s_exponent_of ["wheels"] f_exponent_of fd_exponent_of) (m_len : mg "len" = none) : FnOk P w K mg base CX0 1 f_exponent_of fd_exponent_of ["wheels"] (spD K S_exponent_of) := fnDO (g := g_exponent_of) D_exponent_of.F sc_exponent_of rfl fun cdv A outer s H E hr =>
 (ssd_one (sd_ret (ed_if (td_cmp op_gt (sat_cmp _) (ed_cb call_len_seq sat_len (by rfl) m_len bt_len (ad_cons (ed_v 0) ad_nil)) ed_int) (ed_ix (ed_v 0) (ed_un un_neg sat_neg ed_int)) ed_int)))
abbrev s_made_by : Stmt := topS 8
theorem sc_made_by : FnScope N_made_by ["wheels", "items"] (defScope s_made_by) := ⟨rfl, rfl, rfl, by decide +kernel, rfl, by decide +kernel, by decide +kernel⟩
theorem ok_made_by {P : Program} {w : World} {K : PySem.W.Frag} {mg : Str → Option Value} {base : Heap} {f_made_by : Addr} {fd_made_by : FuncData} {f_nought : Addr} {fd_nought : FuncData} {f_plus : Addr} {fd_plus : FuncData} (D_made_by : Df K mg "made_by" s_made_by ["wheels", "items"] f_made_by fd_made_by) (D_nought : Df K mg "nought" s_nought ["wheels"] f_nought fd_nought) (G_nought : FnOk P w K mg base CX0 1 f_nought fd_nought ["wheels"] (spD K S_nought)) (D_plus : Df K mg "plus" s_plus ["wheels", "one", "two"] f_plus fd_plus) (G_plus : FnOk P w K mg base CX0 1 f_plus fd_plus ["wheels", "one", "two"] (spD K S_plus)) (m_len : mg "len" = none) (m_sorted : mg "sorted" = none) (m_tuple : mg "tuple" = none) : FnOk P w K mg base CX0 2 f_made_by fd_made_by ["wheels", "items"] (spD K S_made_by) := fnDO (g := g_made_by) D_made_by.F sc_made_by rfl fun cdv A outer s H E hr =>
 (ssd_cons (sd_own (i := 2) sc_made_by.nd rfl (by first | exact .inl rfl | exact .inr rfl) (ld_lst (ad_cons (ed_call G_nought (hr.mono (by decide)) (by rfl) D_nought.g D_nought.F.kp D_nought.b (ad_cons (ed_v 0) ad_nil)) ad_nil) (cnt_cons cnt_nil)))
 (ssd_cons (sd_disp1 (i := 3) (u0 hr) (ed_th (ed_ix (ed_v 2) ed_int)) ed_bl sc_made_by.nd rfl (by first | exact .inl rfl | exact .inr rfl))
 (ssd_cons (sd_set (i := 4) sc_made_by.nd rfl (by first | exact .inl rfl | exact .inr rfl) ed_int)
 (ssd_cons (sd_while (td_th (td_cmp op_lt (sat_cmp _) (ed_v 4) (ed_cb call_len_seq sat_len (by rfl) m_len bt_len (ad_cons (ed_v 2) ad_nil))))
 (ssd_cons (sd_for (id_seq (ed_v 1)) (gd_name (i := 5) sc_made_by.nd rfl (by first | exact .inl rfl | exact .inr rfl))
 (ssd_cons (sd_set (i := 6) sc_made_by.nd rfl (by first | exact .inl rfl | exact .inr rfl) (ed_th (ed_call G_plus (hr.mono (by decide)) (by rfl) D_plus.g D_plus.F.kp D_plus.b (ad_cons (ed_v 0) (ad_cons (ed_ix (ed_v 2) (ed_v 4)) (ad_cons (ed_v 5) ad_nil))))))
 (ssd_one (sd_if (td_dnin (i := 3) (u1 hr) (ed_v 6))
 (ssd_cons (sd_dput (i := 3) (u1 hr) (ed_v 6) ed_bl)
 (ssd_one (sd_app (i := 2) (ed_v 6))))
 ssd_nil))))
 (ssd_one (sd_aug (i := 4) sc_made_by.nd rfl (by first | exact .inl rfl | exact .inr rfl) ed_int iop_add (sat_i2 _)))))
 (ssd_one (sd_retTh (ed_ct call_tuple_of sat_tup (by rfl) m_tuple bt_tuple (ad_cons (ed_of (ld_cb cr_sortedR2 satCL_sortR (by rfl) m_sorted bt_sorted (ad_cons (ed_v 2) ad_nil))) ad_nil))))))))
abbrev s_prime_factors : Stmt := topS 10
theorem sc_prime_factors : FnScope N_prime_factors ["n"] (defScope s_prime_factors) := ⟨rfl, rfl, rfl, by decide +kernel, rfl, by decide +kernel, by decide +kernel⟩
theorem ok_prime_factors {P : Program} {w : World} {K : PySem.W.Frag} {mg : Str → Option Value} {base : Heap} {f_prime_factors : Addr} {fd_prime_factors : FuncData} (D_prime_factors : Df K mg "prime_factors" s_prime_factors ["n"] f_prime_factors fd_prime_factors)  : FnOk P w K mg base CX0 1 f_prime_factors fd_prime_factors ["n"] (spD K S_prime_factors) := fnDO (g := g_prime_factors) D_prime_factors.F sc_prime_factors rfl fun cdv A outer s H E hr =>
 (ssd_cons (sd_own (i := 1) sc_prime_factors.nd rfl (by first | exact .inl rfl | exact .inr rfl) (ld_lst ad_nil cnt_nil))
 (ssd_cons (sd_set (i := 2) sc_prime_factors.nd rfl (by first | exact .inl rfl | exact .inr rfl) ed_int)
 (ssd_cons (sd_while (td_cmp op_gt (sat_cmp _) (ed_v 0) ed_int)
 (ssd_cons (sd_if (td_cmp (op_eqD (u64 hr)) sat_eq (ed_bin op_modN sat_mod (ed_v 0) (ed_v 2)) ed_int)
 (ssd_cons (sd_app (i := 1) (ed_v 2))
 (ssd_one (sd_while (td_cmp (op_eqD (u64 hr)) sat_eq (ed_bin op_modN sat_mod (ed_v 0) (ed_v 2)) ed_int)
 (ssd_one (sd_aug (i := 0) sc_prime_factors.nd rfl (by first | exact .inl rfl | exact .inr rfl) (ed_v 2) iop_divD sat_div)))))
 ssd_nil)
 (ssd_one (sd_aug (i := 2) sc_prime_factors.nd rfl (by first | exact .inl rfl | exact .inr rfl) ed_int iop_add (sat_i2 _)))))
 (ssd_one (sd_retTh (ed_v 1))))))
abbrev s_part_for : Stmt := topS 11
theorem sc_part_for : FnScope N_part_for ["number", "p"] (defScope s_part_for) := ⟨rfl, rfl, rfl, by decide +kernel, rfl, by decide +kernel, by decide +kernel⟩
theorem ok_part_for {P : Program} {w : World} {K : PySem.W.Frag} {mg : Str → Option Value} {base : Heap} {f_part_for : Addr} {fd_part_for : FuncData} (D_part_for : Df K mg "part_for" s_part_for ["number", "p"] f_part_for fd_part_for)  : FnOk P w K mg base CX0 1 f_part_for fd_part_for ["number", "p"] (spD K S_part_for) := fnDO (g := g_part_for) D_part_for.F sc_part_for rfl fun cdv A outer s H E hr =>
 (ssd_cons (sd_set (i := 2) sc_part_for.nd rfl (by first | exact .inl rfl | exact .inr rfl) ed_int)
 (ssd_cons (sd_while (td_cmp (op_eqD (u64 hr)) sat_eq (ed_bin op_modN sat_mod (ed_v 0) (ed_bin op_mulA sat_mulA (ed_v 2) (ed_v 1))) ed_int)
 (ssd_one (sd_aug (i := 2) sc_part_for.nd rfl (by first | exact .inl rfl | exact .inr rfl) (ed_v 1) iop_mulD sat_mul)))
 (ssd_one (sd_ret (ed_v 2)))))
abbrev s__law_pool : Stmt := topS 13
theorem sc__law_pool : FnScope N__law_pool ["script"] (defScope s__law_pool) := ⟨rfl, rfl, rfl, by decide +kernel, rfl, by decide +kernel, by decide +kernel⟩
theorem ok__law_pool {P : Program} {w : World} {K : PySem.W.Frag} {mg : Str → Option Value} {base : Heap} {f__law_pool : Addr} {fd__law_pool : FuncData} (D__law_pool : Df K mg "_law_pool" s__law_pool ["script"] f__law_pool fd__law_pool) (m_int : mg "int" = none) (m_list : mg "list" = none) : FnOk P w K mg base CX0 1 f__law_pool fd__law_pool ["script"] (spNew K S__law_pool) := fnNew (g := g__law_pool) D__law_pool.F sc__law_pool rfl fun cdv A outer s H E hr =>
 (nd_cons (sd_set (i := 1) sc__law_pool.nd rfl (by first | exact .inl rfl | exact .inr rfl) ed_int)
 (nd_cons (sd_for (id_seq (ed_of (ld_sl (ed_v 0) od_none (od_some ed_int)))) (gd_name (i := 2) sc__law_pool.nd rfl (by first | exact .inl rfl | exact .inr rfl))
 (ssd_one (sd_set (i := 1) sc__law_pool.nd rfl (by first | exact .inl rfl | exact .inr rfl) (ed_bin op_modN sat_mod (ed_ct call_int1 sat_int (by rfl) m_int bt_int (ad_cons (ed_bin op_addD sat_add (ed_bin op_mulA sat_mulA (ed_v 1) ed_int) (ed_v 2)) ad_nil)) ed_int))))
 (nd_ret (ld_lst (ad_cons (ed_of (ld_ct call_list_of sat_list (by rfl) m_list bt_list (ad_cons (ed_v 0) ad_nil))) (ad_cons ed_int (ad_cons ed_int (ad_cons ed_int (ad_cons (ed_v 1) ad_nil))))) (cnt_cons (cnt_cons (cnt_cons (cnt_cons (cnt_cons cnt_nil)))))))))
abbrev s__law_spread : Stmt := topS 14
theorem sc__law_spread : FnScope N__law_spread ["cell"] (defScope s__law_spread) := ⟨rfl, rfl, rfl, by decide +kernel, rfl, by decide +kernel, by decide +kernel⟩
theorem ok__law_spread {P : Program} {w : World} {K : PySem.W.Frag} {mg : Str → Option Value} {base : Heap} {f__law_spread : Addr} {fd__law_spread : FuncData} (D__law_spread : Df K mg "_law_spread" s__law_spread ["cell"] f__law_spread fd__law_spread) (m_int : mg "int" = none) (m_range : mg "range" = none) : FnOk P w K mg base CX0 1 f__law_spread fd__law_spread ["cell"] (spD K S__law_spread) := fnDO (g := g__law_spread) D__law_spread.F sc__law_spread rfl fun cdv A outer s H E hr =>
 (ssd_cons (sd_set (i := 1) sc__law_spread.nd rfl (by first | exact .inl rfl | exact .inr rfl) (ed_bin op_modN sat_mod (ed_ct call_int1 sat_int (by rfl) m_int bt_int (ad_cons (ed_v 0) ad_nil)) ed_int))
 (ssd_cons (sd_set (i := 2) sc__law_spread.nd rfl (by first | exact .inl rfl | exact .inr rfl) ed_int)
 (ssd_cons (sd_for (id_rng1 (by rfl) m_range (ad_cons ed_int ad_nil)) (gd_name (i := 3) sc__law_spread.nd rfl (by first | exact .inl rfl | exact .inr rfl))
 (ssd_cons (sd_set (i := 1) sc__law_spread.nd rfl (by first | exact .inl rfl | exact .inr rfl) (ed_bin op_modN sat_mod (ed_ct call_int1 sat_int (by rfl) m_int bt_int (ad_cons (ed_bin op_addD sat_add (ed_bin op_addD sat_add (ed_bin op_mulA sat_mulA (ed_v 1) ed_int) ed_int) (ed_v 3)) ad_nil)) ed_int))
 (ssd_one (sd_set (i := 2) sc__law_spread.nd rfl (by first | exact .inl rfl | exact .inr rfl) (ed_bin op_addD sat_add (ed_bin op_mulA sat_mulA (ed_v 2) ed_int) (ed_v 1))))))
 (ssd_one (sd_ret (ed_v 2))))))
abbrev s__law_draw : Stmt := topS 15
theorem sc__law_draw : FnScope N__law_draw ["pool", "many"] (defScope s__law_draw) := ⟨rfl, rfl, rfl, by decide +kernel, rfl, by decide +kernel, by decide +kernel⟩
theorem ok__law_draw {P : Program} {w : World} {K : PySem.W.Frag} {mg : Str → Option Value} {base : Heap} {f__law_draw : Addr} {fd__law_draw : FuncData} {f__law_spread : Addr} {fd__law_spread : FuncData} (D__law_draw : Df K mg "_law_draw" s__law_draw ["pool", "many"] f__law_draw fd__law_draw) (D__law_spread : Df K mg "_law_spread" s__law_spread ["cell"] f__law_spread fd__law_spread) (G__law_spread : FnOk P w K mg base CX0 1 f__law_spread fd__law_spread ["cell"] (spD K S__law_spread)) (m_int : mg "int" = none) (m_len : mg "len" = none) : FnOk P w K mg base CX0 2 f__law_draw fd__law_draw ["pool", "many"] (spP K S__law_draw) := fnPO (g := g__law_draw) D__law_draw.F sc__law_draw rfl fun cdv A outer s H E hr =>
 (ssd_cons (sd_if (td_w (wd_and (td_cmp op_le (sat_cmp _) ed_pool ed_int) (wd_and1 (td_cmp op_lt (sat_cmp _) ed_pool (ed_cb call_len_seq sat_len (by rfl) m_len bt_len (ad_cons ed_pool ad_nil))))))
 (ssd_cons (sd_set (i := 2) sc__law_draw.nd rfl (by first | exact .inl rfl | exact .inr rfl) (ed_ix ed_pool ed_pool))
 (ssd_cons (sd_poolSet (i := 0) (ed_bin op_addD sat_add ed_pool ed_int))
 (ssd_cons (sd_poolSet (i := 0) (ed_v 2))
 (ssd_one (sd_if (td_cmp op_lt (sat_cmp _) (ed_v 2) ed_int)
 (ssd_one (sd_poolSet (i := 0) (ed_call G__law_spread (hr.mono (by decide)) (by rfl) D__law_spread.g D__law_spread.F.kp D__law_spread.b (ad_cons (ed_v 2) ad_nil))))
 ssd_nil)))))
 ssd_nil)
 (ssd_cons (sd_poolSet (i := 0) (ed_bin op_addD sat_add ed_pool ed_int))
 (ssd_cons (sd_if (td_cmp op_le (sat_cmp _) ed_pool ed_int)
 (ssd_cons (sd_set (i := 3) sc__law_draw.nd rfl (by first | exact .inl rfl | exact .inr rfl) (ed_bin op_modN sat_mod (ed_ct call_int1 sat_int (by rfl) m_int bt_int (ad_cons (ed_bin op_addD sat_add (ed_bin op_addD sat_add (ed_bin op_mulA sat_mulA ed_pool ed_int) (ed_bin op_mulA sat_mulA ed_pool ed_int)) ed_int) ad_nil)) ed_int))
 (ssd_cons (sd_set (i := 3) sc__law_draw.nd rfl (by first | exact .inl rfl | exact .inr rfl) (ed_bin op_modN sat_mod (ed_ct call_int1 sat_int (by rfl) m_int bt_int (ad_cons (ed_bin op_addD sat_add (ed_bin op_mulA sat_mulA (ed_v 3) ed_int) ed_pool) ad_nil)) ed_int))
 (ssd_one (sd_ret (ed_bin op_modN sat_mod (ed_bin op_divD sat_div (ed_v 3) ed_int) (ed_v 1))))))
 ssd_nil)
 (ssd_cons (sd_set (i := 4) sc__law_draw.nd rfl (by first | exact .inl rfl | exact .inr rfl) (ed_bin op_modN sat_mod (ed_ct call_int1 sat_int (by rfl) m_int bt_int (ad_cons ed_pool ad_nil)) (ed_v 1)))
 (ssd_cons (sd_poolSet (i := 0) (ed_bin op_divD sat_div ed_pool (ed_v 1)))
 (ssd_one (sd_ret (ed_v 4))))))))
abbrev s__law_pick : Stmt := topS 16
theorem sc__law_pick : FnScope N__law_pick ["pool", "items"] (defScope s__law_pick) := ⟨rfl, rfl, rfl, by decide +kernel, rfl, by decide +kernel, by decide +kernel⟩
theorem ok__law_pick {P : Program} {w : World} {K : PySem.W.Frag} {mg : Str → Option Value} {base : Heap} {f__law_draw : Addr} {fd__law_draw : FuncData} {f__law_pick : Addr} {fd__law_pick : FuncData} (D__law_pick : Df K mg "_law_pick" s__law_pick ["pool", "items"] f__law_pick fd__law_pick) (D__law_draw : Df K mg "_law_draw" s__law_draw ["pool", "many"] f__law_draw fd__law_draw) (G__law_draw : FnOk P w K mg base CX0 2 f__law_draw fd__law_draw ["pool", "many"] (spP K S__law_draw)) (m_len : mg "len" = none) : FnOk P w K mg base CX0 3 f__law_pick fd__law_pick ["pool", "items"] (spP K S__law_pick) := fnPO (g := g__law_pick) D__law_pick.F sc__law_pick rfl fun cdv A outer s H E hr =>
 (ssd_one (sd_ret (ed_ix (ed_v 1) (ed_callP G__law_draw (hr.mono (by decide)) (by rfl) D__law_draw.g D__law_draw.F.kp D__law_draw.b (ad_cons (ed_cb call_len_seq sat_len (by rfl) m_len bt_len (ad_cons (ed_v 1) ad_nil)) ad_nil)))))
abbrev s__law_shared : Stmt := topS 17
theorem sc__law_shared : FnScope N__law_shared ["a", "b"] (defScope s__law_shared) := ⟨rfl, rfl, rfl, by decide +kernel, rfl, by decide +kernel, by decide +kernel⟩
theorem ok__law_shared {P : Program} {w : World} {K : PySem.W.Frag} {mg : Str → Option Value} {base : Heap} {f__law_shared : Addr} {fd__law_shared : FuncData} (D__law_shared : Df K mg "_law_shared" s__law_shared ["a", "b"] f__law_shared fd__law_shared) (m_abs : mg "abs" = none) (m_int : mg "int" = none) : FnOk P w K mg base CX0 1 f__law_shared fd__law_shared ["a", "b"] (spD K S__law_shared) := fnDO (g := g__law_shared) D__law_shared.F sc__law_shared rfl fun cdv A outer s H E hr =>
 (ssd_cons (sd_while (td_cmp (op_neD (u64 hr)) sat_ne (ed_v 1) ed_int)
 (ssd_one (sd_par (i := 0) (j := 1) sc__law_shared.nd rfl rfl (by decide) rfl rfl (ad_cons (ed_v 1) (ad_cons (ed_bin op_modN sat_mod (ed_ct call_int1 sat_int (by rfl) m_int bt_int (ad_cons (ed_v 0) ad_nil)) (ed_ct call_int1 sat_int (by rfl) m_int bt_int (ad_cons (ed_v 1) ad_nil))) ad_nil)) rfl)))
 (ssd_one (sd_ret (ed_cb call_abs sat_abs (by rfl) m_abs bt_abs (ad_cons (ed_v 0) ad_nil)))))
abbrev s__law_falling : Stmt := topS 18
theorem sc__law_falling : FnScope N__law_falling ["n", "most"] (defScope s__law_falling) := ⟨rfl, rfl, rfl, by decide +kernel, rfl, by decide +kernel, by decide +kernel⟩
theorem ok__law_falling {P : Program} {w : World} {K : PySem.W.Frag} {mg : Str → Option Value} {base : Heap} {f__law_falling : Addr} {fd__law_falling : FuncData} (D__law_falling : Df K mg "_law_falling" s__law_falling ["n", "most"] f__law_falling fd__law_falling) (m_min : mg "min" = none) (m_range : mg "range" = none) : ∀ m : Nat, FnOk P w K mg base CX0 (0 + m) f__law_falling fd__law_falling ["n", "most"] (spD K (S__law_falling m))
  | 0 => fnNever
  | m + 1 => by
    have ih := ok__law_falling (P := P) (w := w) (base := base) D__law_falling  m_min m_range m
    exact fnDO (k := 0 + m) (g := g__law_falling (S__law_falling m)) D__law_falling.F sc__law_falling rfl fun cdv A outer s H E hr =>
 (ssd_cons (sd_if (td_cmp (op_eqD (u64 hr)) sat_eq (ed_v 0) ed_int)
 (ssd_one (sd_ret (ed_of (ld_lst (ad_cons (ed_tup ad_nil cnt_nil) ad_nil) (cnt_cons cnt_nil)))))
 ssd_nil)
 (ssd_cons (sd_set (i := 2) sc__law_falling.nd rfl (by first | exact .inl rfl | exact .inr rfl) (ed_of (ld_lst ad_nil cnt_nil)))
 (ssd_cons (sd_for (id_rng3 (by rfl) m_range (ad_cons (ed_cb (call_min2 rfl) sat_min2 (by rfl) m_min bt_min (ad_cons (ed_v 0) (ad_cons (ed_v 1) ad_nil))) (ad_cons ed_int (ad_cons (ed_un un_neg sat_neg ed_int) ad_nil)))) (gd_name (i := 3) sc__law_falling.nd rfl (by first | exact .inl rfl | exact .inr rfl))
 (ssd_one (sd_set (i := 2) sc__law_falling.nd rfl (by first | exact .inl rfl | exact .inr rfl) (ed_of (ld_cat (ed_v 2) (ed_of (ld_lc (own := [("rest", 4)]) sc__law_falling.nd (id_seq (ed_call ih hr (by rfl) D__law_falling.g D__law_falling.F.kp D__law_falling.b (ad_cons (ed_bin op_sub sat_sub (ed_v 0) (ed_v 3)) (ad_cons (ed_v 3) ad_nil)))) (blkOk_by (by rfl)) (fun _ _ _ _ _ => (gd_name (i := 4) sc__law_falling.nd rfl (by first | exact .inl rfl | exact .inr rfl))) (gok_name 4) (by decide) (fun _ _ _ _ _ => tsd_nil) (fun _ _ _ _ _ => (ed_bin op_addD sat_add (ed_tup (ad_cons (ed_v 3) ad_nil) (cnt_cons cnt_nil)) (ed_v 4))))))))))
 (ssd_one (sd_ret (ed_v 2))))))
abbrev s__law_wheels_with : Stmt := topS 19
theorem sc__law_wheels_with : FnScope N__law_wheels_with ["n"] (defScope s__law_wheels_with) := ⟨rfl, rfl, rfl, by decide +kernel, rfl, by decide +kernel, by decide +kernel⟩
theorem ok__law_wheels_with {P : Program} {w : World} {K : PySem.W.Frag} {mg : Str → Option Value} {base : Heap} {f__law_falling : Addr} {fd__law_falling : FuncData} {f__law_wheels_with : Addr} {fd__law_wheels_with : FuncData} (D__law_wheels_with : Df K mg "_law_wheels_with" s__law_wheels_with ["n"] f__law_wheels_with fd__law_wheels_with) (D__law_falling : Df K mg "_law_falling" s__law_falling ["n", "most"] f__law_falling fd__law_falling) (G__law_falling : FnOk P w K mg base CX0 12 f__law_falling fd__law_falling ["n", "most"] (spD K (S__law_falling 12))) (m_int : mg "int" = none) (m_len : mg "len" = none) (m_max : mg "max" = none) (m_range : mg "range" = none) (m_sorted : mg "sorted" = none) (m_tuple : mg "tuple" = none) : FnOk P w K mg base CX0 13 f__law_wheels_with fd__law_wheels_with ["n"] (spD K S__law_wheels_with) := fnDO (g := g__law_wheels_with) D__law_wheels_with.F sc__law_wheels_with rfl fun cdv A outer s H E hr =>
 (ssd_cons (sd_set (i := 1) sc__law_wheels_with.nd rfl (by first | exact .inl rfl | exact .inr rfl) (ed_of (ld_lst (ad_cons (ed_tup ad_nil cnt_nil) ad_nil) (cnt_cons cnt_nil))))
 (ssd_cons (sd_set (i := 2) sc__law_wheels_with.nd rfl (by first | exact .inl rfl | exact .inr rfl) (ed_v 0))
 (ssd_cons (sd_set (i := 3) sc__law_wheels_with.nd rfl (by first | exact .inl rfl | exact .inr rfl) ed_int)
 (ssd_cons (sd_while (td_cmp op_gt (sat_cmp _) (ed_v 2) ed_int)
 (ssd_cons (sd_set (i := 4) sc__law_wheels_with.nd rfl (by first | exact .inl rfl | exact .inr rfl) ed_int)
 (ssd_cons (sd_while (td_cmp (op_eqD (u64 hr)) sat_eq (ed_bin op_modN sat_mod (ed_ct call_int1 sat_int (by rfl) m_int bt_int (ad_cons (ed_v 2) ad_nil)) (ed_v 3)) ed_int)
 (ssd_cons (sd_set (i := 2) sc__law_wheels_with.nd rfl (by first | exact .inl rfl | exact .inr rfl) (ed_bin op_divD sat_div (ed_v 2) (ed_v 3)))
 (ssd_one (sd_set (i := 4) sc__law_wheels_with.nd rfl (by first | exact .inl rfl | exact .inr rfl) (ed_bin op_addD sat_add (ed_v 4) ed_int)))))
 (ssd_cons (sd_own (i := 5) sc__law_wheels_with.nd rfl (by first | exact .inl rfl | exact .inr rfl) (ld_lst ad_nil cnt_nil))
 (ssd_cons (sd_for (id_seq (ed_v 1)) (gd_name (i := 6) sc__law_wheels_with.nd rfl (by first | exact .inl rfl | exact .inr rfl))
 (ssd_one (sd_for (id_seq (ed_call G__law_falling (hr.mono (by decide)) (by rfl) D__law_falling.g D__law_falling.F.kp D__law_falling.b (ad_cons (ed_v 4) (ad_cons (ed_v 4) ad_nil)))) (gd_name (i := 7) sc__law_wheels_with.nd rfl (by first | exact .inl rfl | exact .inr rfl))
 (ssd_cons (sd_own (i := 8) sc__law_wheels_with.nd rfl (by first | exact .inl rfl | exact .inr rfl) (ld_lst ad_nil cnt_nil))
 (ssd_cons (sd_for (id_rng1 (by rfl) m_range (ad_cons (ed_cb (call_max2 rfl) sat_max2 (by rfl) m_max bt_max (ad_cons (ed_cb call_len_seq sat_len (by rfl) m_len bt_len (ad_cons (ed_v 6) ad_nil)) (ad_cons (ed_cb call_len_seq sat_len (by rfl) m_len bt_len (ad_cons (ed_v 7) ad_nil)) ad_nil))) ad_nil)) (gd_name (i := 9) sc__law_wheels_with.nd rfl (by first | exact .inl rfl | exact .inr rfl))
 (ssd_cons (sd_set (i := 10) sc__law_wheels_with.nd rfl (by first | exact .inl rfl | exact .inr rfl) (ed_if (td_cmp op_lt (sat_cmp _) (ed_v 9) (ed_cb call_len_seq sat_len (by rfl) m_len bt_len (ad_cons (ed_v 6) ad_nil))) (ed_ix (ed_v 6) (ed_bin op_sub sat_sub (ed_bin op_sub sat_sub (ed_cb call_len_seq sat_len (by rfl) m_len bt_len (ad_cons (ed_v 6) ad_nil)) ed_int) (ed_v 9))) ed_int))
 (ssd_cons (sd_set (i := 11) sc__law_wheels_with.nd rfl (by first | exact .inl rfl | exact .inr rfl) ed_int)
 (ssd_cons (sd_for (id_rng1 (by rfl) m_range (ad_cons (ed_if (td_cmp op_lt (sat_cmp _) (ed_v 9) (ed_cb call_len_seq sat_len (by rfl) m_len bt_len (ad_cons (ed_v 7) ad_nil))) (ed_ix (ed_v 7) (ed_v 9)) ed_int) ad_nil)) (gd_name (i := 12) sc__law_wheels_with.nd rfl (by first | exact .inl rfl | exact .inr rfl))
 (ssd_one (sd_set (i := 11) sc__law_wheels_with.nd rfl (by first | exact .inl rfl | exact .inr rfl) (ed_bin op_mulA sat_mulA (ed_v 11) (ed_v 3)))))
 (ssd_one (sd_app (i := 8) (ed_bin op_mulA sat_mulA (ed_v 10) (ed_v 11))))))))
 (ssd_one (sd_app (i := 5) (ed_th (ed_ct call_tuple_of sat_tup (by rfl) m_tuple bt_tuple (ad_cons (ed_of (ld_rev (ed_v 8))) ad_nil))))))))))
 (ssd_cons (sd_move (i := 5) (j := 1) sc__law_wheels_with.nd rfl rfl (by first | exact Or.inl rfl | exact Or.inr (Or.inl rfl)) (by first | exact .inl rfl | exact .inr rfl))
 (ssd_one (sd_set (i := 3) sc__law_wheels_with.nd rfl (by first | exact .inl rfl | exact .inr rfl) (ed_bin op_addD sat_add (ed_v 3) ed_int)))))))))
 (ssd_one (sd_ret (ed_of (ld_cb cr_sortedR2 satCL_sortR (by rfl) m_sorted bt_sorted (ad_cons (ed_v 1) ad_nil)))))))))
abbrev s__law_wheels : Stmt := topS 20
theorem sc__law_wheels : FnScope N__law_wheels ["pool", "most"] (defScope s__law_wheels) := ⟨rfl, rfl, rfl, by decide +kernel, rfl, by decide +kernel, by decide +kernel⟩
theorem ok__law_wheels {P : Program} {w : World} {K : PySem.W.Frag} {mg : Str → Option Value} {base : Heap} {f__law_draw : Addr} {fd__law_draw : FuncData} {f__law_pick : Addr} {fd__law_pick : FuncData} {f__law_wheels : Addr} {fd__law_wheels : FuncData} {f__law_wheels_with : Addr} {fd__law_wheels_with : FuncData} (D__law_wheels : Df K mg "_law_wheels" s__law_wheels ["pool", "most"] f__law_wheels fd__law_wheels) (D__law_draw : Df K mg "_law_draw" s__law_draw ["pool", "many"] f__law_draw fd__law_draw) (G__law_draw : FnOk P w K mg base CX0 2 f__law_draw fd__law_draw ["pool", "many"] (spP K S__law_draw)) (D__law_pick : Df K mg "_law_pick" s__law_pick ["pool", "items"] f__law_pick fd__law_pick) (G__law_pick : FnOk P w K mg base CX0 3 f__law_pick fd__law_pick ["pool", "items"] (spP K S__law_pick)) (D__law_wheels_with : Df K mg "_law_wheels_with" s__law_wheels_with ["n"] f__law_wheels_with fd__law_wheels_with) (G__law_wheels_with : FnOk P w K mg base CX0 13 f__law_wheels_with fd__law_wheels_with ["n"] (spD K S__law_wheels_with)) : FnOk P w K mg base CX0 14 f__law_wheels fd__law_wheels ["pool", "most"] (spP K S__law_wheels) := fnPO (g := g__law_wheels) D__law_wheels.F sc__law_wheels rfl fun cdv A outer s H E hr =>
 (ssd_one (sd_ret (ed_callP G__law_pick (hr.mono (by decide)) (by rfl) D__law_pick.g D__law_pick.F.kp D__law_pick.b (ad_cons (ed_call G__law_wheels_with (hr.mono (by decide)) (by rfl) D__law_wheels_with.g D__law_wheels_with.F.kp D__law_wheels_with.b (ad_cons (ed_bin op_addD sat_add ed_int (ed_callP G__law_draw (hr.mono (by decide)) (by rfl) D__law_draw.g D__law_draw.F.kp D__law_draw.b (ad_cons (ed_v 1) ad_nil))) ad_nil)) ad_nil))))
abbrev s__law_all : Stmt := topS 21
theorem sc__law_all : FnScope N__law_all ["wheels"] (defScope s__law_all) := ⟨rfl, rfl, rfl, by decide +kernel, rfl, by decide +kernel, by decide +kernel⟩
theorem ok__law_all {P : Program} {w : World} {K : PySem.W.Frag} {mg : Str → Option Value} {base : Heap} {f__law_all : Addr} {fd__law_all : FuncData} (D__law_all : Df K mg "_law_all" s__law_all ["wheels"] f__law_all fd__law_all) (m_range : mg "range" = none) : FnOk P w K mg base CX0 1 f__law_all fd__law_all ["wheels"] (spD K S__law_all) := fnDO (g := g__law_all) D__law_all.F sc__law_all rfl fun cdv A outer s H E hr =>
 (ssd_cons (sd_set (i := 1) sc__law_all.nd rfl (by first | exact .inl rfl | exact .inr rfl) (ed_of (ld_lst (ad_cons (ed_tup ad_nil cnt_nil) ad_nil) (cnt_cons cnt_nil))))
 (ssd_cons (sd_for (id_seq (ed_v 0)) (gd_name (i := 2) sc__law_all.nd rfl (by first | exact .inl rfl | exact .inr rfl))
 (ssd_cons (sd_set (i := 3) sc__law_all.nd rfl (by first | exact .inl rfl | exact .inr rfl) (ed_of (ld_lst ad_nil cnt_nil)))
 (ssd_cons (sd_for (id_seq (ed_v 1)) (gd_name (i := 4) sc__law_all.nd rfl (by first | exact .inl rfl | exact .inr rfl))
 (ssd_one (sd_set (i := 3) sc__law_all.nd rfl (by first | exact .inl rfl | exact .inr rfl) (ed_of (ld_cat (ed_v 3) (ed_of (ld_lc (own := [("x", 5)]) sc__law_all.nd (id_rng1 (by rfl) m_range (ad_cons (ed_v 2) ad_nil)) (blkOk_by (by rfl)) (fun _ _ _ _ _ => (gd_name (i := 5) sc__law_all.nd rfl (by first | exact .inl rfl | exact .inr rfl))) (gok_name 5) (by decide) (fun _ _ _ _ _ => tsd_nil) (fun _ _ _ _ _ => (ed_bin op_addD sat_add (ed_v 4) (ed_tup (ad_cons (ed_v 5) ad_nil) (cnt_cons cnt_nil)))))))))))
 (ssd_one (sd_set (i := 1) sc__law_all.nd rfl (by first | exact .inl rfl | exact .inr rfl) (ed_v 3))))))
 (ssd_one (sd_ret (ed_v 1)))))
abbrev s_law : Stmt := topS 22
abbrev N_law : List Str := ["script", "pool", "wheels", "every", "x", "y", "n", "m", "both", "k", "total", "p", "power", "rest", "j", "part", "d"]
theorem sc_law : FnScope N_law ["script"] (defScope s_law) := ⟨rfl, rfl, rfl, by decide +kernel, rfl, by decide +kernel, by decide +kernel⟩
def g_law : FS := xPoolNew 1 S__law_pool (fCons (fV 0) fNil)
 (xSeq (xSet 2 (fCallP 1 S__law_wheels (fCons (fC (.int 120)) fNil)))
 (xSeq (xSet 3 (fCall S__law_all (fCons (fV 2) fNil)))
 (xSeq (xPar 4 5 (fCons (fCallP 1 S__law_pick (fCons (fV 3) fNil)) (fCons (fCallP 1 S__law_pick (fCons (fV 3) fNil)) fNil)))
 (xSeq (xPar 6 7 (fCons (fCall S_order_of (fCons (fV 2) (fCons (fV 4) fNil))) (fCons (fCall S_order_of (fCons (fV 2) (fCons (fV 5) fNil))) fNil)))
 (xSeq (xSet 8 (fBin divD (fBin mulD (fV 6) (fV 7)) (fCall S__law_shared (fCons (fV 6) (fCons (fV 7) fNil)))))
 (xSeq (xSet 9 (fCall S_order_of (fCons (fV 2) (fCons (fCall S_plus (fCons (fV 2) (fCons (fV 4) (fCons (fV 5) fNil)))) fNil))))
 (xSeq (xIf (fOr (fTst (fBin neD (fBin modD (fCall intD (fCons (fV 8) fNil)) (fV 9)) (fC (.int 0)))) (fAnd (fTst (fBin eqD (fCall S__law_shared (fCons (fV 6) (fCons (fV 7) fNil))) (fC (.int 1)))) (fTst (fBin neD (fV 9) (fV 8)))))
 (xRet (fC (.bl false)))
 xNx)
 (xSeq (xSet 10 (fCall S_nought (fCons (fV 2) fNil)))
 (xSeq (xFor (fSeq (fCall S_prime_factors (fCons (fV 6) fNil))) (gN 11)
 (xSeq (xSet 12 (fCall S_part_for (fCons (fV 6) (fCons (fV 11) fNil))))
 (xSeq (xSet 13 (fBin divD (fV 6) (fV 12)))
 (xSeq (xSet 14 (fBin ixD (fLst (fLc [14] (fCallL rng2 (fCons (fC (.int 1)) (fCons (fBin addD (fV 12) (fC (.int 1))) fNil))) (gN 14) (fTst (fBin eqD (fBin modD (fCall intD (fCons (fBin mulD (fV 14) (fV 13)) fNil)) (fV 12)) (fBin modD (fCall intD (fCons (fC (.int 1)) fNil)) (fV 12)))) (fV 14))) (fC (.int 0))))
 (xSeq (xSet 15 (fCall S_times_element (fCons (fV 2) (fCons (fBin mulD (fV 14) (fV 13)) (fCons (fV 4) fNil)))))
 (xSeq (xIf (fOr (fTst (fBin neD (fCall S_order_of (fCons (fV 2) (fCons (fV 15) fNil))) (fV 12))) (fTst (fBin ninD (fV 15) (fCall S_made_by (fCons (fV 2) (fCons (fTup (fCons (fV 4) fNil)) fNil))))))
 (xRet (fC (.bl false)))
 xNx)
 (xSet 10 (fCall S_plus (fCons (fV 2) (fCons (fV 10) (fCons (fV 15) fNil)))))))))))
 (xSeq (xIf (fOr (fTst (fBin neD (fV 10) (fV 4))) (fTst (fBin neD (fCall lenD (fCons (fCall S_made_by (fCons (fV 2) (fCons (fTup (fCons (fV 4) fNil)) fNil))) fNil)) (fV 6))))
 (xRet (fC (.bl false)))
 xNx)
 (xSeq (xSet 16 (fBin addD (fC (.int 1)) (fCallP 1 S__law_draw (fCons (fC (.int 30)) fNil))))
 (xRet (fAndV (fBin eqD (fCall S_order_of (fCons (fV 2) (fCons (fCall S_times_element (fCons (fV 2) (fCons (fV 16) (fCons (fV 4) fNil)))) fNil))) (fBin divD (fV 6) (fCall S__law_shared (fCons (fV 16) (fCons (fV 6) fNil))))) (fBin eqD (fBin modD (fCall intD (fCons (fCall S_exponent_of (fCons (fV 2) fNil)) fNil)) (fV 6)) (fC (.int 0))))))))))))))))
theorem ok_law {P : Program} {w : World} {K : PySem.W.Frag} {mg : Str → Option Value} {base : Heap} {f__law_all : Addr} {fd__law_all : FuncData} {f__law_draw : Addr} {fd__law_draw : FuncData} {f__law_pick : Addr} {fd__law_pick : FuncData} {f__law_pool : Addr} {fd__law_pool : FuncData} {f__law_shared : Addr} {fd__law_shared : FuncData} {f__law_wheels : Addr} {fd__law_wheels : FuncData} {f_exponent_of : Addr} {fd_exponent_of : FuncData} {f_law : Addr} {fd_law : FuncData} {f_made_by : Addr} {fd_made_by : FuncData} {f_nought : Addr} {fd_nought : FuncData} {f_order_of : Addr} {fd_order_of : FuncData} {f_part_for : Addr} {fd_part_for : FuncData} {f_plus : Addr} {fd_plus : FuncData} {f_prime_factors : Addr} {fd_prime_factors : FuncData} {f_times_element : Addr} {fd_times_element : FuncData} (D_law : Df K mg "law" s_law ["script"] f_law fd_law) (D__law_all : Df K mg "_law_all" s__law_all ["wheels"] f__law_all fd__law_all) (G__law_all : FnOk P w K mg base CX0 1 f__law_all fd__law_all ["wheels"] (spD K S__law_all)) (D__law_draw : Df K mg "_law_draw" s__law_draw ["pool", "many"] f__law_draw fd__law_draw) (G__law_draw : FnOk P w K mg base CX0 2 f__law_draw fd__law_draw ["pool", "many"] (spP K S__law_draw)) (D__law_pick : Df K mg "_law_pick" s__law_pick ["pool", "items"] f__law_pick fd__law_pick) (G__law_pick : FnOk P w K mg base CX0 3 f__law_pick fd__law_pick ["pool", "items"] (spP K S__law_pick)) (D__law_pool : Df K mg "_law_pool" s__law_pool ["script"] f__law_pool fd__law_pool) (G__law_pool : FnOk P w K mg base CX0 1 f__law_pool fd__law_pool ["script"] (spNew K S__law_pool)) (D__law_shared : Df K mg "_law_shared" s__law_shared ["a", "b"] f__law_shared fd__law_shared) (G__law_shared : FnOk P w K mg base CX0 1 f__law_shared fd__law_shared ["a", "b"] (spD K S__law_shared)) (D__law_wheels : Df K mg "_law_wheels" s__law_wheels ["pool", "most"] f__law_wheels fd__law_wheels) (G__law_wheels : FnOk P w K mg base CX0 14 f__law_wheels fd__law_wheels ["pool", "most"] (spP K S__law_wheels)) (D_exponent_of : Df K mg "exponent_of" s_exponent_of ["wheels"] f_exponent_of fd_exponent_of) (G_exponent_of : FnOk P w K mg base CX0 1 f_exponent_of fd_exponent_of ["wheels"] (spD K S_exponent_of)) (D_made_by : Df K mg "made_by" s_made_by ["wheels", "items"] f_made_by fd_made_by) (G_made_by : FnOk P w K mg base CX0 2 f_made_by fd_made_by ["wheels", "items"] (spD K S_made_by)) (D_nought : Df K mg "nought" s_nought ["wheels"] f_nought fd_nought) (G_nought : FnOk P w K mg base CX0 1 f_nought fd_nought ["wheels"] (spD K S_nought)) (D_order_of : Df K mg "order_of" s_order_of ["wheels", "one"] f_order_of fd_order_of) (G_order_of : FnOk P w K mg base CX0 2 f_order_of fd_order_of ["wheels", "one"] (spD K S_order_of)) (D_part_for : Df K mg "part_for" s_part_for ["number", "p"] f_part_for fd_part_for) (G_part_for : FnOk P w K mg base CX0 1 f_part_for fd_part_for ["number", "p"] (spD K S_part_for)) (D_plus : Df K mg "plus" s_plus ["wheels", "one", "two"] f_plus fd_plus) (G_plus : FnOk P w K mg base CX0 1 f_plus fd_plus ["wheels", "one", "two"] (spD K S_plus)) (D_prime_factors : Df K mg "prime_factors" s_prime_factors ["n"] f_prime_factors fd_prime_factors) (G_prime_factors : FnOk P w K mg base CX0 1 f_prime_factors fd_prime_factors ["n"] (spD K S_prime_factors)) (D_times_element : Df K mg "times_element" s_times_element ["wheels", "k", "one"] f_times_element fd_times_element) (G_times_element : FnOk P w K mg base CX0 1 f_times_element fd_times_element ["wheels", "k", "one"] (spD K S_times_element)) (m_int : mg "int" = none) (m_len : mg "len" = none) (m_range : mg "range" = none) (hS : ∀ ns : List Int, ns.length ≤ 63 → ∃ p', g_law (st0 N_law [.ro (ns.map .int)]) ⟨[], 0, 0, 0, 0⟩ = some (.rt (.bl true) p')) : FnOk P w K mg base CX0 15 f_law fd_law ["script"] (spLawD K) := fnLaw (g := g_law) D_law.F sc_law (fun cdv A outer s H E hr =>
 ssd_poolNew G__law_pool (hr.mono (by decide)) (by rfl) D__law_pool.g D__law_pool.F.kp D__law_pool.b (ad_cons (ed_v 0) ad_nil)
 (ssd_cons (sd_set (i := 2) sc_law.nd rfl (by first | exact .inl rfl | exact .inr rfl) (ed_callP G__law_wheels (hr.mono (by decide)) (by rfl) D__law_wheels.g D__law_wheels.F.kp D__law_wheels.b (ad_cons ed_int ad_nil)))
 (ssd_cons (sd_set (i := 3) sc_law.nd rfl (by first | exact .inl rfl | exact .inr rfl) (ed_call G__law_all (hr.mono (by decide)) (by rfl) D__law_all.g D__law_all.F.kp D__law_all.b (ad_cons (ed_v 2) ad_nil)))
 (ssd_cons (sd_par (i := 4) (j := 5) sc_law.nd rfl rfl (by decide) rfl rfl (ad_cons (ed_callP G__law_pick (hr.mono (by decide)) (by rfl) D__law_pick.g D__law_pick.F.kp D__law_pick.b (ad_cons (ed_v 3) ad_nil)) (ad_cons (ed_callP G__law_pick (hr.mono (by decide)) (by rfl) D__law_pick.g D__law_pick.F.kp D__law_pick.b (ad_cons (ed_v 3) ad_nil)) ad_nil)) rfl)
 (ssd_cons (sd_par (i := 6) (j := 7) sc_law.nd rfl rfl (by decide) rfl rfl (ad_cons (ed_call G_order_of (hr.mono (by decide)) (by rfl) D_order_of.g D_order_of.F.kp D_order_of.b (ad_cons (ed_v 2) (ad_cons (ed_v 4) ad_nil))) (ad_cons (ed_call G_order_of (hr.mono (by decide)) (by rfl) D_order_of.g D_order_of.F.kp D_order_of.b (ad_cons (ed_v 2) (ad_cons (ed_v 5) ad_nil))) ad_nil)) rfl)
 (ssd_cons (sd_set (i := 8) sc_law.nd rfl (by first | exact .inl rfl | exact .inr rfl) (ed_bin op_divD sat_div (ed_bin op_mulA sat_mulA (ed_v 6) (ed_v 7)) (ed_call G__law_shared (hr.mono (by decide)) (by rfl) D__law_shared.g D__law_shared.F.kp D__law_shared.b (ad_cons (ed_v 6) (ad_cons (ed_v 7) ad_nil)))))
 (ssd_cons (sd_set (i := 9) sc_law.nd rfl (by first | exact .inl rfl | exact .inr rfl) (ed_call G_order_of (hr.mono (by decide)) (by rfl) D_order_of.g D_order_of.F.kp D_order_of.b (ad_cons (ed_v 2) (ad_cons (ed_call G_plus (hr.mono (by decide)) (by rfl) D_plus.g D_plus.F.kp D_plus.b (ad_cons (ed_v 2) (ad_cons (ed_v 4) (ad_cons (ed_v 5) ad_nil)))) ad_nil))))
 (ssd_cons (sd_if (td_w (wd_or (td_cmp (op_neD (u64 hr)) sat_ne (ed_bin op_modN sat_mod (ed_ct call_int1 sat_int (by rfl) m_int bt_int (ad_cons (ed_v 8) ad_nil)) (ed_v 9)) ed_int) (wd_or1 (td_w (wd_and (td_cmp (op_eqD (u64 hr)) sat_eq (ed_call G__law_shared (hr.mono (by decide)) (by rfl) D__law_shared.g D__law_shared.F.kp D__law_shared.b (ad_cons (ed_v 6) (ad_cons (ed_v 7) ad_nil))) ed_int) (wd_and1 (td_cmp (op_neD (u64 hr)) sat_ne (ed_v 9) (ed_v 8))))))))
 (ssd_one (sd_ret ed_bl))
 ssd_nil)
 (ssd_cons (sd_set (i := 10) sc_law.nd rfl (by first | exact .inl rfl | exact .inr rfl) (ed_call G_nought (hr.mono (by decide)) (by rfl) D_nought.g D_nought.F.kp D_nought.b (ad_cons (ed_v 2) ad_nil)))
 (ssd_cons (sd_for (id_seq (ed_call G_prime_factors (hr.mono (by decide)) (by rfl) D_prime_factors.g D_prime_factors.F.kp D_prime_factors.b (ad_cons (ed_v 6) ad_nil))) (gd_name (i := 11) sc_law.nd rfl (by first | exact .inl rfl | exact .inr rfl))
 (ssd_cons (sd_set (i := 12) sc_law.nd rfl (by first | exact .inl rfl | exact .inr rfl) (ed_call G_part_for (hr.mono (by decide)) (by rfl) D_part_for.g D_part_for.F.kp D_part_for.b (ad_cons (ed_v 6) (ad_cons (ed_v 11) ad_nil))))
 (ssd_cons (sd_set (i := 13) sc_law.nd rfl (by first | exact .inl rfl | exact .inr rfl) (ed_bin op_divD sat_div (ed_v 6) (ed_v 12)))
 (ssd_cons (sd_set (i := 14) sc_law.nd rfl (by first | exact .inl rfl | exact .inr rfl) (ed_ix (ed_of (ld_lc (own := [("j", 14)]) sc_law.nd (id_rng2 (by rfl) m_range (ad_cons ed_int (ad_cons (ed_bin op_addD sat_add (ed_v 12) ed_int) ad_nil))) (blkOk_by (by rfl)) (fun _ _ _ _ _ => (gd_name (i := 14) sc_law.nd rfl (by first | exact .inl rfl | exact .inr rfl))) (gok_name 14) (by decide) (fun _ _ _ _ _ => (tsd_one (td_cmp (op_eqD (u64 hr)) sat_eq (ed_bin op_modN sat_mod (ed_ct call_int1 sat_int (by rfl) m_int bt_int (ad_cons (ed_bin op_mulA sat_mulA (ed_v 14) (ed_v 13)) ad_nil)) (ed_v 12)) (ed_bin op_modN sat_mod (ed_ct call_int1 sat_int (by rfl) m_int bt_int (ad_cons ed_int ad_nil)) (ed_v 12))))) (fun _ _ _ _ _ => (ed_v 14)))) ed_int))
 (ssd_cons (sd_set (i := 15) sc_law.nd rfl (by first | exact .inl rfl | exact .inr rfl) (ed_call G_times_element (hr.mono (by decide)) (by rfl) D_times_element.g D_times_element.F.kp D_times_element.b (ad_cons (ed_v 2) (ad_cons (ed_bin op_mulA sat_mulA (ed_v 14) (ed_v 13)) (ad_cons (ed_v 4) ad_nil)))))
 (ssd_cons (sd_if (td_w (wd_or (td_cmp (op_neD (u64 hr)) sat_ne (ed_call G_order_of (hr.mono (by decide)) (by rfl) D_order_of.g D_order_of.F.kp D_order_of.b (ad_cons (ed_v 2) (ad_cons (ed_v 15) ad_nil))) (ed_v 12)) (wd_or1 (td_cmp (op_ninA (u65 hr)) sat_nin (ed_v 15) (ed_call G_made_by (hr.mono (by decide)) (by rfl) D_made_by.g D_made_by.F.kp D_made_by.b (ad_cons (ed_v 2) (ad_cons (ed_tup (ad_cons (ed_v 4) ad_nil) (cnt_cons cnt_nil)) ad_nil)))))))
 (ssd_one (sd_ret ed_bl))
 ssd_nil)
 (ssd_one (sd_set (i := 10) sc_law.nd rfl (by first | exact .inl rfl | exact .inr rfl) (ed_call G_plus (hr.mono (by decide)) (by rfl) D_plus.g D_plus.F.kp D_plus.b (ad_cons (ed_v 2) (ad_cons (ed_v 10) (ad_cons (ed_v 15) ad_nil))))))))))))
 (ssd_cons (sd_if (td_w (wd_or (td_cmp (op_neD (u64 hr)) sat_ne (ed_v 10) (ed_v 4)) (wd_or1 (td_cmp (op_neD (u64 hr)) sat_ne (ed_cb call_len_seq sat_len (by rfl) m_len bt_len (ad_cons (ed_call G_made_by (hr.mono (by decide)) (by rfl) D_made_by.g D_made_by.F.kp D_made_by.b (ad_cons (ed_v 2) (ad_cons (ed_tup (ad_cons (ed_v 4) ad_nil) (cnt_cons cnt_nil)) ad_nil))) ad_nil)) (ed_v 6)))))
 (ssd_one (sd_ret ed_bl))
 ssd_nil)
 (ssd_cons (sd_set (i := 16) sc_law.nd rfl (by first | exact .inl rfl | exact .inr rfl) (ed_bin op_addD sat_add ed_int (ed_callP G__law_draw (hr.mono (by decide)) (by rfl) D__law_draw.g D__law_draw.F.kp D__law_draw.b (ad_cons ed_int ad_nil))))
 (ssd_one (sd_ret (ed_and (ed_cmp (op_eqD (u64 hr)) sat_eq (ed_call G_order_of (hr.mono (by decide)) (by rfl) D_order_of.g D_order_of.F.kp D_order_of.b (ad_cons (ed_v 2) (ad_cons (ed_call G_times_element (hr.mono (by decide)) (by rfl) D_times_element.g D_times_element.F.kp D_times_element.b (ad_cons (ed_v 2) (ad_cons (ed_v 16) (ad_cons (ed_v 4) ad_nil)))) ad_nil))) (ed_bin op_divD sat_div (ed_v 6) (ed_call G__law_shared (hr.mono (by decide)) (by rfl) D__law_shared.g D__law_shared.F.kp D__law_shared.b (ad_cons (ed_v 16) (ad_cons (ed_v 6) ad_nil))))) (ed_one (ed_cmp (op_eqD (u64 hr)) sat_eq (ed_bin op_modN sat_mod (ed_ct call_int1 sat_int (by rfl) m_int bt_int (ad_cons (ed_call G_exponent_of (hr.mono (by decide)) (by rfl) D_exponent_of.g D_exponent_of.F.kp D_exponent_of.b (ad_cons (ed_v 2) ad_nil)) ad_nil)) (ed_v 6)) ed_int)))))))))))))))) sc_law.nd (i := 1) rfl (by first | exact .inl rfl | exact .inr rfl)) hS
theorem ok_all {P : Program} {w : World} {K : PySem.W.Frag} {mg : Str → Option Value} {base : Heap} {f_plus : Addr} {fd_plus : FuncData} {f_times_element : Addr} {fd_times_element : FuncData} {f_nought : Addr} {fd_nought : FuncData} {f_shared : Addr} {fd_shared : FuncData} {f_order_of : Addr} {fd_order_of : FuncData} {f_exponent_of : Addr} {fd_exponent_of : FuncData} {f_made_by : Addr} {fd_made_by : FuncData} {f_prime_factors : Addr} {fd_prime_factors : FuncData} {f_part_for : Addr} {fd_part_for : FuncData} {f__law_pool : Addr} {fd__law_pool : FuncData} {f__law_spread : Addr} {fd__law_spread : FuncData} {f__law_draw : Addr} {fd__law_draw : FuncData} {f__law_pick : Addr} {fd__law_pick : FuncData} {f__law_shared : Addr} {fd__law_shared : FuncData} {f__law_falling : Addr} {fd__law_falling : FuncData} {f__law_wheels_with : Addr} {fd__law_wheels_with : FuncData} {f__law_wheels : Addr} {fd__law_wheels : FuncData} {f__law_all : Addr} {fd__law_all : FuncData} {f_law : Addr} {fd_law : FuncData} (D_plus : Df K mg "plus" s_plus ["wheels", "one", "two"] f_plus fd_plus) (D_times_element : Df K mg "times_element" s_times_element ["wheels", "k", "one"] f_times_element fd_times_element) (D_nought : Df K mg "nought" s_nought ["wheels"] f_nought fd_nought) (D_shared : Df K mg "shared" s_shared ["a", "b"] f_shared fd_shared) (D_order_of : Df K mg "order_of" s_order_of ["wheels", "one"] f_order_of fd_order_of) (D_exponent_of : Df K mg "exponent_of" s_exponent_of ["wheels"] f_exponent_of fd_exponent_of) (D_made_by : Df K mg "made_by" s_made_by ["wheels", "items"] f_made_by fd_made_by) (D_prime_factors : Df K mg "prime_factors" s_prime_factors ["n"] f_prime_factors fd_prime_factors) (D_part_for : Df K mg "part_for" s_part_for ["number", "p"] f_part_for fd_part_for) (D__law_pool : Df K mg "_law_pool" s__law_pool ["script"] f__law_pool fd__law_pool) (D__law_spread : Df K mg "_law_spread" s__law_spread ["cell"] f__law_spread fd__law_spread) (D__law_draw : Df K mg "_law_draw" s__law_draw ["pool", "many"] f__law_draw fd__law_draw) (D__law_pick : Df K mg "_law_pick" s__law_pick ["pool", "items"] f__law_pick fd__law_pick) (D__law_shared : Df K mg "_law_shared" s__law_shared ["a", "b"] f__law_shared fd__law_shared) (D__law_falling : Df K mg "_law_falling" s__law_falling ["n", "most"] f__law_falling fd__law_falling) (D__law_wheels_with : Df K mg "_law_wheels_with" s__law_wheels_with ["n"] f__law_wheels_with fd__law_wheels_with) (D__law_wheels : Df K mg "_law_wheels" s__law_wheels ["pool", "most"] f__law_wheels fd__law_wheels) (D__law_all : Df K mg "_law_all" s__law_all ["wheels"] f__law_all fd__law_all) (D_law : Df K mg "law" s_law ["script"] f_law fd_law) (m_abs : mg "abs" = none) (m_int : mg "int" = none) (m_len : mg "len" = none) (m_list : mg "list" = none) (m_max : mg "max" = none) (m_min : mg "min" = none) (m_range : mg "range" = none) (m_sorted : mg "sorted" = none) (m_tuple : mg "tuple" = none) (m_zip : mg "zip" = none) (hS : ∀ ns : List Int, ns.length ≤ 63 → ∃ p', g_law (st0 N_law [.ro (ns.map .int)]) ⟨[], 0, 0, 0, 0⟩ = some (.rt (.bl true) p')) : FnOk P w K mg base CX0 15 f_law fd_law ["script"] (spLawD K) := by
  have G_plus := ok_plus (P := P) (w := w) (base := base) D_plus m_tuple m_zip
  have G_times_element := ok_times_element (P := P) (w := w) (base := base) D_times_element m_tuple m_zip
  have G_nought := ok_nought (P := P) (w := w) (base := base) D_nought m_len
  have G_shared := ok_shared (P := P) (w := w) (base := base) D_shared m_abs
  have G_order_of := ok_order_of (P := P) (w := w) (base := base) D_order_of D_shared G_shared m_zip
  have G_exponent_of := ok_exponent_of (P := P) (w := w) (base := base) D_exponent_of m_len
  have G_made_by := ok_made_by (P := P) (w := w) (base := base) D_made_by D_nought G_nought D_plus G_plus m_len m_sorted m_tuple
  have G_prime_factors := ok_prime_factors (P := P) (w := w) (base := base) D_prime_factors 
  have G_part_for := ok_part_for (P := P) (w := w) (base := base) D_part_for 
  have G__law_pool := ok__law_pool (P := P) (w := w) (base := base) D__law_pool m_int m_list
  have G__law_spread := ok__law_spread (P := P) (w := w) (base := base) D__law_spread m_int m_range
  have G__law_draw := ok__law_draw (P := P) (w := w) (base := base) D__law_draw D__law_spread G__law_spread m_int m_len
  have G__law_pick := ok__law_pick (P := P) (w := w) (base := base) D__law_pick D__law_draw G__law_draw m_len
  have G__law_shared := ok__law_shared (P := P) (w := w) (base := base) D__law_shared m_abs m_int
  have G__law_falling := ok__law_falling (P := P) (w := w) (base := base) D__law_falling m_min m_range 12
  have G__law_wheels_with := ok__law_wheels_with (P := P) (w := w) (base := base) D__law_wheels_with D__law_falling G__law_falling m_int m_len m_max m_range m_sorted m_tuple
  have G__law_wheels := ok__law_wheels (P := P) (w := w) (base := base) D__law_wheels D__law_draw G__law_draw D__law_pick G__law_pick D__law_wheels_with G__law_wheels_with 
  have G__law_all := ok__law_all (P := P) (w := w) (base := base) D__law_all m_range
  have G_law := ok_law (P := P) (w := w) (base := base) D_law D__law_all G__law_all D__law_draw G__law_draw D__law_pick G__law_pick D__law_pool G__law_pool D__law_shared G__law_shared D__law_wheels G__law_wheels D_exponent_of G_exponent_of D_made_by G_made_by D_nought G_nought D_order_of G_order_of D_part_for G_part_for D_plus G_plus D_prime_factors G_prime_factors D_times_element G_times_element m_int m_len m_range hS
  exact G_law
end K20

namespace K20
open PySem L2 DL PG
theorem reach_mul {w x : List Int} (hw : Sm w) (hx : El w x) : ∀ k : Nat, Reach w [x] (mulW w (k : Int) x)
  | 0 => by
    rw [show ((0 : Nat) : Int) = 0 from rfl, mul_zero hx]
    exact .zero
  | k + 1 => by
    have e : mulW w ((k + 1 : Nat) : Int) x = addW w (mulW w (k : Int) x) x := by
      conv => rhs; arg 3; rw [← mul_one hx]
      rw [add_mul _ _ hx]
      push_cast
      rfl
    rw [e]
    exact .step (reach_mul hw hx k) (List.mem_singleton.mpr rfl)
theorem reach_only {w x y : List Int} (hw : Sm w) (hx : El w x) (h : Reach w [x] y) : ∃ k : Nat, y = mulW w (k : Int) x := by
  induction h with
  | zero => exact ⟨0, (mul_zero hx).symm⟩
  | @step z it _ m ih =>
    obtain ⟨k, rfl⟩ := ih
    rw [List.mem_singleton] at m
    subst m
    refine ⟨k + 1, ?_⟩
    conv => lhs; arg 3; rw [← mul_one hx]
    rw [add_mul _ _ hx]
    push_cast
    rfl
theorem reach_emod {w x y : List Int} (hw : Sm w) (hx : El w x) : Reach w [x] y ↔ ∃ k ∈ up 0 (ordW w x).toNat, y = mulW w k x := by
  have hp := ord_pos hw hx
  constructor
  · intro h
    obtain ⟨k, rfl⟩ := reach_only hw hx h
    refine ⟨(k : Int) % ordW w x, up_mem.mpr ⟨Int.emod_nonneg _ (by omega), by have := Int.emod_lt_of_pos (k : Int) (show 0 < ordW w x by omega); omega⟩, ?_⟩
    rw [ord_spec hw hx]
    exact Int.dvd_self_sub_emod
  · rintro ⟨k, mk, rfl⟩
    have := up_mem.mp mk
    have e : k = ((k.toNat : Nat) : Int) := by omega
    rw [e]
    exact reach_mul hw hx _
theorem up_nodup : ∀ (c : Nat) (k : Int), (up k c).Nodup
  | 0, _ => List.nodup_nil
  | c + 1, k => List.nodup_cons.mpr ⟨fun h => by have := up_mem.mp h; omega, up_nodup c (k + 1)⟩
theorem small_dvd {n a : Int} (h : n ∣ a) (h1 : -n < a) (h2 : a < n) : a = 0 := by
  obtain ⟨c, rfl⟩ := h
  by_cases z : c = 0
  · rw [z, Int.mul_zero]
  · exfalso
    by_cases hc : 1 ≤ c
    · have := Int.mul_le_mul_of_nonneg_left hc (show 0 ≤ n by omega)
      omega
    · have := Int.mul_le_mul_of_nonneg_left (show 1 ≤ -c by omega) (show 0 ≤ n by omega)
      rw [Int.mul_neg] at this
      omega
theorem made_len {w x : List Int} (hw : Sm w) (hx : El w x) {rows : List (List Int)} (hn : rows.Nodup) (hm : ∀ y, y ∈ rows ↔ Reach w [x] y) : (rows.length : Int) = ordW w x := by
  have hp := ord_pos hw hx
  have nd : ((up 0 (ordW w x).toNat).map fun k => mulW w k x).Nodup := by
    have aux : ∀ l : List Int, l.Nodup → (∀ k ∈ l, 0 ≤ k ∧ k < ordW w x) → (l.map fun k => mulW w k x).Nodup := by
      intro l
      induction l with
      | nil => intro _ _; exact List.nodup_nil
      | cons a l ih =>
        intro h hb
        obtain ⟨h1, h2⟩ := List.nodup_cons.mp h
        refine List.nodup_cons.mpr ⟨fun m => ?_, ih h2 fun k m => hb k (List.mem_cons_of_mem _ m)⟩
        obtain ⟨b, mb, e⟩ := List.mem_map.mp m
        have hd := (ord_spec hw hx b a).mp e
        have b1 := hb b (List.mem_cons_of_mem _ mb)
        have b2 := hb a List.mem_cons_self
        have := small_dvd hd (by omega) (by omega)
        exact h1 (by rw [show a = b by omega]; exact mb)
    exact aux _ (up_nodup _ _) fun k m => by have := up_mem.mp m; omega
  have l1 := nodup_le hn fun y my => by
    obtain ⟨k, mk, e⟩ := (reach_emod hw hx).mp ((hm y).mp my)
    exact List.mem_map.mpr ⟨k, mk, e.symm⟩
  have l2 := nodup_le nd fun y my => by
    obtain ⟨k, mk, e⟩ := List.mem_map.mp my
    exact (hm y).mpr ((reach_emod hw hx).mpr ⟨k, mk, e.symm⟩)
  rw [List.length_map, up_len] at l1 l2
  omega
/-- the part of x at a prime -/
theorem ord_part {w x : List Int} (hw : Sm w) (hx : El w x) {pw rest j : Int} (h1 : 1 ≤ pw) (hr : 1 ≤ rest) (hn : ordW w x = pw * rest) (hj : pw ∣ j * rest - 1) : ordW w (mulW w (j * rest) x) = pw := by
  refine ord_uniq hw (el_mul _ hw hx) h1 fun k => ?_
  rw [mul_mul _ _ hx, ord_zero hw hx, hn]
  constructor
  · rintro ⟨c, hc⟩
    -- pw * rest | k * j * rest gives pw | k * j
    have e : k * j = pw * c := by
      have : (k * j) * rest = (pw * c) * rest := by
        rw [Int.mul_assoc, hc]
        simp only [Int.mul_assoc, Int.mul_comm, Int.mul_left_comm]
      exact Int.eq_of_mul_eq_mul_right (by omega) this
    obtain ⟨d, hd⟩ := hj
    -- k = k * (j * rest) - k * (pw * d)
    refine ⟨c * rest - k * d, ?_⟩
    have e2 : k * (j * rest - 1) = k * (pw * d) := by rw [hd]
    rw [Int.mul_sub, Int.mul_one] at e2
    have e3 : k * (j * rest) = pw * (c * rest) := by
      rw [← Int.mul_assoc, e, Int.mul_assoc]
    rw [Int.mul_sub]
    have e4 : pw * (k * d) = k * (pw * d) := Int.mul_left_comm _ _ _
    omega
  · rintro ⟨c, rfl⟩
    exact ⟨c * j, by simp only [Int.mul_assoc, Int.mul_comm, Int.mul_left_comm]⟩
/-- the order of a sum -/
theorem ord_sum {w x y : List Int} (hw : Sm w) (hx : El w x) (hy : El w y) : ordW w (addW w x y) ∣ ordW w x * ordW w y / gcdI (ordW w x) (ordW w y) ∧ (gcdI (ordW w x) (ordW w y) = 1 → ordW w (addW w x y) = ordW w x * ordW w y / gcdI (ordW w x) (ordW w y)) := by
  have n1 := ord_pos hw hx
  have n2 := ord_pos hw hy
  obtain ⟨d1, d2⟩ := (lcm_dvd n1 n2).mp (Int.dvd_refl _)
  have hd : ordW w (addW w x y) ∣ ordW w x * ordW w y / gcdI (ordW w x) (ordW w y) := by
    rw [← ord_zero hw (el_add hw hx hy), mul_add _ hx hy, (ord_zero hw hx _).mpr d1, (ord_zero hw hy _).mpr d2]
    exact zero_add (el_zero hw)
  refine ⟨hd, fun hg => ?_⟩
  refine dvd_antisymm' (ord_pos hw (el_add hw hx hy)) (lcm_pos n1 n2) hd ?_
  rw [lcm_dvd n1 n2]
  -- k (x + y) = 0
  have hk : addW w (mulW w (ordW w (addW w x y)) x) (mulW w (ordW w (addW w x y)) y) = zeroW w := by
    rw [← mul_add _ hx hy]
    exact (ord_zero hw (el_add hw hx hy) _).mpr (Int.dvd_refl _)
  generalize ordW w (addW w x y) = k at hk
  have cop : ∀ {a b c : Int}, 1 ≤ a → 1 ≤ b → gcdI a b = 1 → b ∣ a * c → b ∣ c := fun {a b c} ha hb hg h => by
    have : b / gcdI a b ∣ c := (part_dvd (by omega) hb).mpr (by rw [Int.mul_comm]; exact h)
    rwa [hg, Int.ediv_one] at this
  have sym : gcdI (ordW w y) (ordW w x) = 1 := by
    unfold gcdI at hg ⊢
    rw [Nat.gcd_comm]
    exact hg
  constructor
  · -- m k x = 0, as m k y = 0
    have h1 : mulW w (ordW w y) (addW w (mulW w k x) (mulW w k y)) = zeroW w := by
      rw [hk, ← mul_zero hx, mul_mul _ _ hx, Int.mul_zero]
    rw [mul_add _ (el_mul _ hw hx) (el_mul _ hw hy), mul_mul _ _ hx, mul_mul _ _ hy, (ord_zero hw hy _).mpr ⟨k, rfl⟩, add_zero (el_mul _ hw hx)] at h1
    exact cop n2 n1 sym ((ord_zero hw hx _).mp h1)
  · have h1 : mulW w (ordW w x) (addW w (mulW w k x) (mulW w k y)) = zeroW w := by
      rw [hk, ← mul_zero hx, mul_mul _ _ hx, Int.mul_zero]
    rw [mul_add _ (el_mul _ hw hx) (el_mul _ hw hy), mul_mul _ _ hx, mul_mul _ _ hy, (ord_zero hw hx _).mpr ⟨k, rfl⟩, zero_add (el_mul _ hw hy)] at h1
    exact cop n1 n2 hg ((ord_zero hw hy _).mp h1)
/-- an order divides each number that all wheels divide -/
theorem ord_dvd {w x : List Int} (hw : Sm w) (hx : El w x) {N : Int} (h : ∀ n ∈ w, n ∣ N) : ordW w x ∣ N := by
  have := (ordF_dvd (f := 1) (k := N) (by omega) (okP_of hw hx.nn)).mpr ⟨Int.one_dvd _, fun t m => Int.dvd_trans (h _ (zip2I_mem m).2) (Int.dvd_mul_right _ _)⟩
  exact this
theorem mem_dvd_prod : ∀ {w : List Int}, ∀ n ∈ w, n ∣ prodI w
  | a :: w, n, m => by
    rcases List.mem_cons.mp m with rfl | m
    · exact Int.dvd_mul_right _ _
    · exact Int.dvd_trans (mem_dvd_prod n m) (Int.dvd_mul_left _ _)
theorem mem_dvd_last {w : List Int} (h : w.Pairwise (· ∣ ·)) : ∀ n ∈ w, n ∣ w.getLastD 1 := by
  intro n m
  rcases List.eq_nil_or_concat w with rfl | ⟨r, a, rfl⟩
  · cases m
  · rw [List.concat_eq_append] at h m ⊢
    have e : (r ++ [a]).getLastD 1 = a := by simp [List.getLastD_eq_getLast?]
    rw [e]
    rcases List.mem_append.mp m with m | m
    · exact (List.pairwise_append.mp h).2.2 n m a (List.mem_singleton.mpr rfl)
    · rw [List.mem_singleton.mp m]; exact Int.dvd_refl _
/-- the order of a multiple -/
theorem ord_times {w x : List Int} (hw : Sm w) (hx : El w x) {d : Int} (hd : 1 ≤ d) : ordW w (mulW w d x) = ordW w x / gcdI d (ordW w x) := by
  have n1 := ord_pos hw hx
  refine ord_uniq hw (el_mul _ hw hx) (div_pos n1 (gcdI_pos n1) (gcdI_dvd_r (by omega))) fun k => ?_
  rw [mul_mul _ _ hx, ord_zero hw hx, part_dvd (by omega) n1]

def js (pw rest : Nat) : List Nat := (List.range pw).filter fun i => Nat.beq (((i + 1) * rest) % pw) (1 % pw)
def one? : List Nat → Option Nat
  | [i] => some i
  | _ => none
def crtL (n : Nat) : List Nat → Option (List (Nat × Nat × Nat))
  | [] => some []
  | p :: ps => (partR 200 n p 1).bind fun pw => (one? (js pw (n / pw))).bind fun i => cond (Nat.ble 2 pw && Nat.beq (pw * (n / pw)) n && Nat.ble 1 p && Nat.ble p 1000 && Nat.beq (((i + 1) * (n / pw)) % pw) 1) ((crtL n ps).map ((p, pw, i + 1) :: ·)) none
def sumT (n : Nat) : List (Nat × Nat × Nat) → Nat
  | [] => 0
  | t :: ts => t.2.2 * (n / t.2.1) + sumT n ts
def chkN (n : Nat) : Bool := match pfR 10000 n 2 [] with
  | none => false
  | some ps => match crtL n ps with
    | none => false
    | some ts => Nat.beq (sumT n ts % n) (1 % n)
theorem chk_all : ((List.range 120).all fun i => chkN (i + 1)) = true := by decide +kernel
theorem chk_of {n : Nat} (h1 : 1 ≤ n) (h2 : n ≤ 120) : ∃ ps ts, pfR 10000 n 2 [] = some ps ∧ crtL n ps = some ts ∧ sumT n ts % n = 1 % n := by
  have h := List.all_eq_true.mp chk_all (n - 1) (List.mem_range.mpr (by omega))
  rw [show n - 1 + 1 = n by omega] at h
  unfold chkN at h
  split at h
  · cases h
  · rename_i ps e1
    split at h
    · cases h
    · rename_i ts e2
      exact ⟨ps, ts, e1, e2, Nat.eq_of_beq_eq_true h⟩
end K20

namespace K20
open PySem L2 DL PG
abbrev sL (sc ev : D) (w x y : List Int) (n m both k : Int) (total : List Int) (s11 s12 s13 s14 s15 s16 : Sl) : List Sl :=
  [.fz sc, .pl, .fz (tupI w), .fz ev, .fz (tupI x), .fz (tupI y), .fz (.int n), .fz (.int m), .fz (.int both), .fz (.int k), .fz (tupI total), s11, s12, s13, s14, s15, s16]
abbrev bPr : FS := (xSeq (xSet 12 (fCall S_part_for (fCons (fV 6) (fCons (fV 11) fNil))))
 (xSeq (xSet 13 (fBin divD (fV 6) (fV 12)))
 (xSeq (xSet 14 (fBin ixD (fLst (fLc [14] (fCallL rng2 (fCons (fC (.int 1)) (fCons (fBin addD (fV 12) (fC (.int 1))) fNil))) (gN 14) (fTst (fBin eqD (fBin modD (fCall intD (fCons (fBin mulD (fV 14) (fV 13)) fNil)) (fV 12)) (fBin modD (fCall intD (fCons (fC (.int 1)) fNil)) (fV 12)))) (fV 14))) (fC (.int 0))))
 (xSeq (xSet 15 (fCall S_times_element (fCons (fV 2) (fCons (fBin mulD (fV 14) (fV 13)) (fCons (fV 4) fNil)))))
 (xSeq (xIf (fOr (fTst (fBin neD (fCall S_order_of (fCons (fV 2) (fCons (fV 15) fNil))) (fV 12))) (fTst (fBin ninD (fV 15) (fCall S_made_by (fCons (fV 2) (fCons (fTup (fCons (fV 4) fNil)) fNil))))))
 (xRet (fC (.bl false)))
 xNx)
 (xSet 10 (fCall S_plus (fCons (fV 2) (fCons (fV 10) (fCons (fV 15) fNil))))))))))
theorem up_range : ∀ (c : Nat), up 1 c = (List.range c).map fun (i : Nat) => (i : Int) + 1 := fun c => by
  have := rngD_up c 1
  unfold rngD at this
  have inj : ∀ {a b : List Int}, a.map D.int = b.map D.int → a = b := by
    intro a
    induction a with
    | nil => intro b h; cases b with
      | nil => rfl
      | cons _ _ => cases h
    | cons x a ih => intro b h; cases b with
      | nil => cases h
      | cons y b =>
        rw [List.map_cons, List.map_cons, List.cons.injEq] at h
        rw [D.int.inj h.1, ih h.2]
  refine (inj ?_).symm
  rw [← this, List.map_map]
  refine List.map_congr_left fun i _ => ?_
  show D.int ((i : Int) + 1) = D.int (1 + (i : Nat))
  rw [Int.add_comm]
section
variable {sc ev : D} {w x y : List Int} {n : Nat} {m both k : Int} {P : Pool} {rows : List (List Int)}
theorem pr_step (hw : Sm w) (hx : El w x) (hn : ordW w x = n) (hn2 : n ≤ 120) (hmade : S_made_by [tupI w, .tup [tupI x]] = some (.tup (rows.map tupI))) (hrows : ∀ z, z ∈ rows ↔ Reach w [x] z)
    {p pw i : Nat} (hp : 1 ≤ p) (hp2 : p ≤ 1000) (h1 : partR 200 n p 1 = some pw) (h2 : js pw (n / pw) = [i]) (h3 : 2 ≤ pw) (h4 : pw * (n / pw) = n) (h5 : ((i + 1) * (n / pw)) % pw = 1) {c : Int} (s12 s13 s14 s15 s16 : Sl) (h14 : s14.own = false) :
    ∃ t12 t13 t14 t15, t14.own = false ∧ bPr (sL sc ev w x y n m both k (mulW w c x) (.fz (.int p)) s12 s13 s14 s15 s16) P = some (.nx (sL sc ev w x y n m both k (mulW w (c + (((i + 1) * (n / pw) : Nat) : Int)) x) (.fz (.int p)) t12 t13 t14 t15 s16) P) := by
  have hpos := ord_pos hw hx
  have hpw : pw ≤ n := by
    have h0 : 1 ≤ n / pw := by
      by_cases z : n / pw = 0
      · rw [z] at h4; omega
      · exact Nat.pos_of_ne_zero z
    have := Nat.mul_le_mul_left pw h0
    omega
  have hr : n / pw ≤ n := Nat.div_le_self _ _
  have hr1 : 1 ≤ n / pw := by
    by_cases z : n / pw = 0
    · rw [z] at h4; omega
    · exact Nat.pos_of_ne_zero z
  have hi : i < pw := by
    have : i ∈ js pw (n / pw) := by rw [h2]; exact List.mem_singleton.mpr rfl
    exact List.mem_range.mp (List.mem_filter.mp this).1
  generalize hR : n / pw = rest at *
  have e1 : fCall S_part_for (fCons (fV 6) (fCons (fV 11) fNil)) (sL sc ev w x y n m both k (mulW w c x) (.fz (.int p)) s12 s13 s14 s15 s16) P = some (.int pw, P) := ev_call (p1 := P) rfl (part_for_ok hp (by omega) h1)
  have e2 : fBin divD (fV 6) (fV 12) (sL sc ev w x y n m both k (mulW w c x) (.fz (.int p)) (.fz (.int pw)) s13 s14 s15 s16) P = some (.int rest, P) := by
    refine ev_bin (p1 := P) rfl rfl ?_
    rw [divD_pos (a := (n : Int)) (b := (pw : Int)) (by omega) (by omega), ← Int.natCast_ediv, hR]
  have e3 : fBin ixD (fLst (fLc [14] (fCallL rng2 (fCons (fC (.int 1)) (fCons (fBin addD (fV 12) (fC (.int 1))) fNil))) (gN 14) (fTst (fBin eqD (fBin modD (fCall intD (fCons (fBin mulD (fV 14) (fV 13)) fNil)) (fV 12)) (fBin modD (fCall intD (fCons (fC (.int 1)) fNil)) (fV 12)))) (fV 14))) (fC (.int 0)) (sL sc ev w x y n m both k (mulW w c x) (.fz (.int p)) (.fz (.int pw)) (.fz (.int rest)) s14 s15 s16) P = some (.int ((i : Int) + 1), P) := by
    refine ev_bin (p1 := P) (x := .lst ((js pw rest).map fun (a : Nat) => D.int ((a : Int) + 1))) (y := .int 0) (ev_lst (ev_lc (p1 := P) (ds := (List.range pw).map fun (a : Nat) => D.int ((a : Int) + 1)) (ev_callL (p1 := P) (xs := [.int 1, .int ((pw : Int) + 1)]) rfl ?_) ?_ ?_)) rfl ?_
    · show (if -1000000 ≤ (1 : Int) ∧ (1 : Int) ≤ 1000000 ∧ -1000000 ≤ ((pw : Int) + 1) ∧ ((pw : Int) + 1) ≤ 1000000 ∧ ((pw : Int) + 1) - 1 ≤ 1000000 then some (rngD 1 (((pw : Int) + 1) - 1).toNat) else none) = _
      rw [if_pos (by omega), show (((pw : Int) + 1) - 1).toNat = pw by omega, rngD_up, up_range, List.map_map]
      rfl
    · show ([14].all (notOwn (sL sc ev w x y n m both k (mulW w c x) (.fz (.int p)) (.fz (.int pw)) (.fz (.int rest)) s14 s15 s16))) = true
      show ((!s14.own) && true) = true
      rw [h14]
      rfl
    · refine lcL_filter (c := fun (a : Nat) => Nat.beq (((a + 1) * rest) % pw) (1 % pw)) (f := fun (a : Nat) => D.int ((a : Int) + 1)) fun a ma => ⟨sL sc ev w x y n m both k (mulW w c x) (.fz (.int p)) (.fz (.int pw)) (.fz (.int rest)) (.fz (.int ((a : Int) + 1))) s15 s16, rfl, ?_, fun _ => rfl⟩
      have ha := List.mem_range.mp ma
      have base : fBin eqD (fBin modD (fCall intD (fCons (fBin mulD (fV 14) (fV 13)) fNil)) (fV 12)) (fBin modD (fCall intD (fCons (fC (.int 1)) fNil)) (fV 12)) (sL sc ev w x y n m both k (mulW w c x) (.fz (.int p)) (.fz (.int pw)) (.fz (.int rest)) (.fz (.int ((a : Int) + 1))) s15 s16) P = some (.bl (decide ((((a : Int) + 1) * rest) % pw = 1 % (pw : Int))), P) :=
        ev_bin (p1 := P) (ev_bin (p1 := P) (ev_call (p1 := P) (z := .int (((a : Int) + 1) * rest)) (ev_cons (p1 := P) (ev_bin (p1 := P) rfl rfl (mulD_l (sml_of_le (by omega) (by omega)))) rfl) rfl) rfl (modD_pos (b := (pw : Int)) (by omega))) (ev_bin (p1 := P) rfl rfl (modD_pos (a := 1) (b := (pw : Int)) (by omega))) (eqD_int _ _)
      have c1 : (((a : Int) + 1) * rest) % pw = ((((a + 1) * rest) % pw : Nat) : Int) := by push_cast; rfl
      have c2 : (1 : Int) % pw = ((1 % pw : Nat) : Int) := by push_cast; rfl
      have hdec : decide ((((a : Int) + 1) * rest) % pw = 1 % (pw : Int)) = Nat.beq (((a + 1) * rest) % pw) (1 % pw) := by
        rw [c1, c2]
        generalize ((a + 1) * rest) % pw = u
        generalize 1 % pw = v
        by_cases e : u = v
        · subst e
          rw [decide_eq_true rfl, Nat.beq_refl]
        · rw [decide_eq_false (fun z => e (Int.ofNat_inj.mp z))]
          cases hb : Nat.beq u v with
          | false => rfl
          | true => exact absurd (Nat.eq_of_beq_eq_true hb) e
      rw [hdec] at base
      exact ev_tst base
    · rw [h2]
      rfl
  have ej : ((i : Int) + 1) * rest = (((i + 1) * rest : Nat) : Int) := by push_cast; rfl
  have e4 : fCall S_times_element (fCons (fV 2) (fCons (fBin mulD (fV 14) (fV 13)) (fCons (fV 4) fNil))) (sL sc ev w x y n m both k (mulW w c x) (.fz (.int p)) (.fz (.int pw)) (.fz (.int rest)) (.fz (.int ((i : Int) + 1))) s15 s16) P = some (tupI (mulW w (((i + 1) * rest : Nat) : Int) x), P) := by
    refine ev_call (p1 := P) (ev_cons (p1 := P) rfl (ev_cons (p1 := P) (ev_bin (p1 := P) rfl rfl (mulD_l (sml_of_le (by omega) (by omega)))) (ev_cons (p1 := P) rfl rfl))) ?_
    rw [ej]
    exact times_ok hw (El.sm hw hx)
  have hord : ordW w (mulW w (((i + 1) * rest : Nat) : Int) x) = pw := by
    rw [← ej]
    refine ord_part hw hx (by omega) (by omega) (by rw [hn, ← h4]; push_cast; rfl) ?_
    rw [ej]
    have h6 := Nat.div_add_mod ((i + 1) * rest) pw
    rw [h5] at h6
    exact ⟨(((i + 1) * rest / pw : Nat) : Int), by rw [← Int.natCast_mul]; omega⟩
  have hmem : mulW w (((i + 1) * rest : Nat) : Int) x ∈ rows := (hrows _).mpr (reach_mul hw hx _)
  refine ⟨.fz (.int pw), .fz (.int rest), .fz (.int ((i : Int) + 1)), .fz (tupI (mulW w (((i + 1) * rest : Nat) : Int) x)), rfl, ?_⟩
  refine ev_seq (p1 := P) (s1 := sL sc ev w x y n m both k (mulW w c x) (.fz (.int p)) (.fz (.int pw)) s13 s14 s15 s16) (ev_set e1 (by show 12 < 17; omega)) ?_
  refine ev_seq (p1 := P) (s1 := sL sc ev w x y n m both k (mulW w c x) (.fz (.int p)) (.fz (.int pw)) (.fz (.int rest)) s14 s15 s16) (ev_set e2 (by show 13 < 17; omega)) ?_
  refine ev_seq (p1 := P) (s1 := sL sc ev w x y n m both k (mulW w c x) (.fz (.int p)) (.fz (.int pw)) (.fz (.int rest)) (.fz (.int ((i : Int) + 1))) s15 s16) (ev_set e3 (by show 14 < 17; omega)) ?_
  refine ev_seq (p1 := P) (s1 := sL sc ev w x y n m both k (mulW w c x) (.fz (.int p)) (.fz (.int pw)) (.fz (.int rest)) (.fz (.int ((i : Int) + 1))) (.fz (tupI (mulW w (((i + 1) * rest : Nat) : Int) x))) s16) (ev_set e4 (by show 15 < 17; omega)) ?_
  refine ev_seq (p1 := P) (ev_ifF (p1 := P) (ev_or (c := false) (p1 := P) (ev_tst (ev_bin (p1 := P) (ev_call (p1 := P) rfl (order_ok hw (El.nn (el_mul _ hw hx)))) rfl ?_)) (fun z => by cases z) fun _ => ev_tst (ev_bin (p1 := P) rfl (ev_call (p1 := P) rfl hmade) ?_)) rfl) ?_
  · rw [neD_int, hord, decide_eq_true rfl]
    rfl
  · rw [ninD_tup, decide_eq_true hmem]
    rfl
  · have := ev_set (i := 10) (fe := fCall S_plus (fCons (fV 2) (fCons (fV 10) (fCons (fV 15) fNil)))) (s := sL sc ev w x y n m both k (mulW w c x) (.fz (.int p)) (.fz (.int pw)) (.fz (.int rest)) (.fz (.int ((i : Int) + 1))) (.fz (tupI (mulW w (((i + 1) * rest : Nat) : Int) x))) s16) (p := P) (p1 := P) (ev_call (p1 := P) rfl (plus_ok hw)) (by show 10 < 17; omega)
    rw [add_mul _ _ hx] at this
    exact this
theorem pr_loop (hw : Sm w) (hx : El w x) (hn : ordW w x = n) (hn2 : n ≤ 120) (hmade : S_made_by [tupI w, .tup [tupI x]] = some (.tup (rows.map tupI))) (hrows : ∀ z, z ∈ rows ↔ Reach w [x] z) (s16 : Sl) : ∀ (ps : List Nat) (ts : List (Nat × Nat × Nat)) (c : Int) (s11 s12 s13 s14 s15 : Sl), crtL n ps = some ts → s14.own = false → ∃ t11 t12 t13 t14 t15,
    forL (gN 11) bPr (natsD ps) (sL sc ev w x y n m both k (mulW w c x) s11 s12 s13 s14 s15 s16) P = some (.nx (sL sc ev w x y n m both k (mulW w (c + (sumT n ts : Nat)) x) t11 t12 t13 t14 t15 s16) P)
  | [], ts, c, s11, s12, s13, s14, s15, h, _ => by
    cases h
    exact ⟨s11, s12, s13, s14, s15, by simp [sumT, natsD, forL]⟩
  | p :: ps, ts, c, s11, s12, s13, s14, s15, h, h14 => by
    unfold crtL at h
    cases h1 : partR 200 n p 1 with
    | none => rw [h1] at h; cases h
    | some pw =>
      rw [h1] at h
      change (one? (js pw (n / pw))).bind _ = _ at h
      cases h2 : js pw (n / pw) with
      | nil => rw [h2] at h; cases h
      | cons i r =>
        rw [h2] at h
        cases r with
        | cons _ _ => cases h
        | nil =>
          change cond (Nat.ble 2 pw && Nat.beq (pw * (n / pw)) n && Nat.ble 1 p && Nat.ble p 1000 && Nat.beq (((i + 1) * (n / pw)) % pw) 1) ((crtL n ps).map ((p, pw, i + 1) :: ·)) none = some ts at h
          cases hb : (Nat.ble 2 pw && Nat.beq (pw * (n / pw)) n && Nat.ble 1 p && Nat.ble p 1000 && Nat.beq (((i + 1) * (n / pw)) % pw) 1) with
          | false => rw [hb] at h; cases h
          | true =>
            rw [hb] at h
            change (crtL n ps).map _ = _ at h
            cases h3 : crtL n ps with
            | none => rw [h3] at h; cases h
            | some ts2 =>
              rw [h3] at h
              cases h
              simp only [Bool.and_eq_true] at hb
              obtain ⟨⟨⟨⟨b1, b2⟩, b3⟩, b4⟩, b5⟩ := hb
              obtain ⟨t12, t13, t14, t15, g1, g2⟩ := pr_step (sc := sc) (ev := ev) (y := y) (m := m) (both := both) (k := k) (P := P) (c := c) hw hx hn hn2 hmade hrows (Nat.le_of_ble_eq_true b3) (Nat.le_of_ble_eq_true b4) h1 h2 (Nat.le_of_ble_eq_true b1) (Nat.eq_of_beq_eq_true b2) (Nat.eq_of_beq_eq_true b5) s12 s13 s14 s15 s16 h14
              obtain ⟨u11, u12, u13, u14, u15, g3⟩ := pr_loop hw hx hn hn2 hmade hrows s16 ps ts2 (c + (((i + 1) * (n / pw) : Nat) : Int)) (.fz (.int p)) t12 t13 t14 t15 h3 g1
              refine ⟨u11, u12, u13, u14, u15, forL_cons (p2 := P) (s1 := sL sc ev w x y n m both k (mulW w c x) (.fz (.int p)) s12 s13 s14 s15 s16) rfl g2 ?_⟩
              have : c + (((i + 1) * (n / pw) : Nat) : Int) + (sumT n ts2 : Nat) = c + (sumT n ((p, pw, i + 1) :: ts2) : Nat) := by
                show _ = c + (((i + 1) * (n / pw) + sumT n ts2 : Nat) : Int)
                push_cast
                omega
              rw [this] at g3
              exact g3
end
theorem ev_poolNew {i : Nat} {S : List D → Option Pool} {fs : FA} {b : FS} {s : List Sl} {p p1 p2 P : PL} {ds : List D} {d : D} (hs : s.all plain1 = true ∧ i < s.length) (h : fs s p = some (ds, p1)) (hS : S ds = some P) (hb : b (s.set i .pl) P = some (.rt d p2)) : xPoolNew i S fs b s p = some (.rt d p2) := by
  unfold xPoolNew
  rw [if_pos hs, h]
  show (S ds).bind _ = _
  rw [hS]
  show (b (s.set i .pl) P).bind _ = _
  rw [hb]
  rfl
theorem law_plain : ∀ ns : List Int, ns.length ≤ 63 → ∃ p', g_law (st0 N_law [.ro (ns.map .int)]) ⟨[], 0, 0, 0, 0⟩ = some (.rt (.bl true) p') := by
  intro ns hns
  obtain ⟨P, hP, hPa⟩ := pool_ok hns
  -- wheels
  obtain ⟨w, P1, hw1, hW, hsz, hP1⟩ := wheels_ok (most := 120) (P := P) (by omega) (by omega) hPa
  have w1 : ∀ n ∈ w, 1 ≤ n := fun n m => by have := hW.two n m; omega
  have hw : Sm w := ⟨w1, fun n m => by have := mem_le_prodI w1 n m; omega⟩
  have hwl : (w.length : Int) + 1 ≤ 120 := by have := len_le_prodI hW.two; omega
  have hal : ((allL w).length : Int) ≤ 120 := by rw [allL_len w1]; exact hsz
  have hall := all_ok hw (by omega) (by omega)
  -- x, y
  obtain ⟨x, P2, hx1, hxm, hP2⟩ := pick_mem (f := tupI) (allL_ne w1) (by omega) hP1
  obtain ⟨y, P3, hy1, hym, hP3⟩ := pick_mem (f := tupI) (allL_ne w1) (by omega) hP2
  have hx := allL_mem.mp hxm
  have hy := allL_mem.mp hym
  have n1 := ord_pos hw hx
  have m1 := ord_pos hw hy
  have n2 : ordW w x ≤ 120 := by have := Int.le_of_dvd (by have := prodI_pos w1; omega) (ord_dvd hw hx (mem_dvd_prod (w := w))); omega
  have m2 : ordW w y ≤ 120 := by have := Int.le_of_dvd (by have := prodI_pos w1; omega) (ord_dvd hw hy (mem_dvd_prod (w := w))); omega
  obtain ⟨n, hn⟩ : ∃ n : Nat, ordW w x = n := ⟨(ordW w x).toNat, by omega⟩
  generalize hm : ordW w y = m at *
  have hadd := el_add hw hx hy
  obtain ⟨s1, s2⟩ := ord_sum hw hx hy
  rw [hn, hm] at s1 s2
  have k1 := ord_pos hw hadd
  have g1 := gcdI_pos (a := (n : Int)) m1
  have g2 := gcdI_le (a := (n : Int)) m1
  -- what x makes
  obtain ⟨rows, r1, r2, _, r3⟩ := made_ok (items := [x]) hw (by omega) (fun it m => by rw [List.mem_singleton] at m; subst m; exact hx) (by simp; omega)
  have hlen := made_len hw hx r2 r3
  -- the primes
  obtain ⟨ps, ts, q1, q2, q3⟩ := chk_of (n := n) (by omega) (by omega)
  -- the last draw
  obtain ⟨v, P4, hv, v0, v1, hP4⟩ := draw_ok (P := P3) (m := 30) (by omega) (by omega) hP3
  have d1 : 1 ≤ 1 + v := by omega
  obtain ⟨t11, t12, t13, t14, t15, hloop⟩ := pr_loop (sc := .ro (ns.map .int)) (ev := .lst ((allL w).map tupI)) (y := y) (m := m) (both := (n : Int) * m / gcdI n m) (k := ordW w (addW w x y)) (P := P3) hw hx hn (by omega) r1 r3 .no ps ts 0 .no .no .no .no .no q2 rfl
  -- all of x is put together again
  have htot : mulW w (0 + (sumT n ts : Nat)) x = x := by
    conv => rhs; rw [← mul_one hx]
    rw [ord_spec hw hx, hn, Int.zero_add]
    refine Int.dvd_of_emod_eq_zero (Int.emod_eq_emod_iff_emod_sub_eq_zero.mp ?_)
    have : ((sumT n ts % n : Nat) : Int) = ((1 % n : Nat) : Int) := by rw [q3]
    exact this
  rw [htot] at hloop
  have hexp : (w.getLastD 1) % (n : Int) = 0 := by
    refine Int.emod_eq_zero_of_dvd ?_
    rw [← hn]
    exact ord_dvd hw hx (mem_dvd_last hW.chain)
  have hordd := ord_times hw hx d1
  rw [hn] at hordd
  have gnm : gcdI (1 + v) (n : Int) ≤ n := gcdI_le (by omega)
  have gnm1 : 1 ≤ gcdI (1 + v) (n : Int) := gcdI_pos (by omega)
  have both0 : ((n : Int) * m / gcdI n m) % ordW w (addW w x y) = 0 := Int.emod_eq_zero_of_dvd s1
  refine ⟨P4, ev_poolNew ⟨rfl, by show 1 < 17; omega⟩ rfl hP ?_⟩
  -- wheels, every
  refine ev_seq (p1 := P1) (s1 := [.fz (.ro (ns.map .int)), .pl, .fz (tupI w), .no, .no, .no, .no, .no, .no, .no, .no, .no, .no, .no, .no, .no, .no]) (ev_set (ev_callP (p1 := P) rfl rfl hw1) (by show 2 < 17; omega)) ?_
  refine ev_seq (p1 := P1) (s1 := [.fz (.ro (ns.map .int)), .pl, .fz (tupI w), .fz (.lst ((allL w).map tupI)), .no, .no, .no, .no, .no, .no, .no, .no, .no, .no, .no, .no, .no]) (ev_set (ev_call (p1 := P1) rfl hall) (by show 3 < 17; omega)) ?_
  -- x, y
  refine ev_seq (p1 := P3) (s1 := [.fz (.ro (ns.map .int)), .pl, .fz (tupI w), .fz (.lst ((allL w).map tupI)), .fz (tupI x), .fz (tupI y), .no, .no, .no, .no, .no, .no, .no, .no, .no, .no, .no]) (ev_par (p1 := P3) (ev_cons (p1 := P2) (ev_callP (p1 := P1) rfl rfl hx1) (ev_cons (p1 := P3) (ev_callP (p1 := P2) rfl rfl hy1) rfl)) ⟨by show 4 < 17; omega, by show 5 < 17; omega⟩) ?_
  -- n, m
  refine ev_seq (p1 := P3) (s1 := [.fz (.ro (ns.map .int)), .pl, .fz (tupI w), .fz (.lst ((allL w).map tupI)), .fz (tupI x), .fz (tupI y), .fz (.int n), .fz (.int m), .no, .no, .no, .no, .no, .no, .no, .no, .no]) (ev_par (p1 := P3) (ev_cons (p1 := P3) (ev_call (p1 := P3) rfl (by rw [← hn]; exact order_ok hw (El.nn hx))) (ev_cons (p1 := P3) (ev_call (p1 := P3) rfl (by rw [← hm]; exact order_ok hw (El.nn hy))) rfl)) ⟨by show 6 < 17; omega, by show 7 < 17; omega⟩) ?_
  -- both
  refine ev_seq (p1 := P3) (s1 := [.fz (.ro (ns.map .int)), .pl, .fz (tupI w), .fz (.lst ((allL w).map tupI)), .fz (tupI x), .fz (tupI y), .fz (.int n), .fz (.int m), .fz (.int ((n : Int) * m / gcdI n m)), .no, .no, .no, .no, .no, .no, .no, .no]) (ev_set (ev_bin (p1 := P3) (ev_bin (p1 := P3) rfl rfl (mulD_l (a := (n : Int)) (b := m) (sml_of_le (by omega) (by omega)))) (ev_call (p1 := P3) rfl (lshared_ok (a := (n : Int)) (b := m) (by omega) (by omega) (by omega))) (divD_pos (b := gcdI n m) (by omega) (by omega))) (by show 8 < 17; omega)) ?_
  -- k
  refine ev_seq (p1 := P3) (s1 := [.fz (.ro (ns.map .int)), .pl, .fz (tupI w), .fz (.lst ((allL w).map tupI)), .fz (tupI x), .fz (tupI y), .fz (.int n), .fz (.int m), .fz (.int ((n : Int) * m / gcdI n m)), .fz (.int (ordW w (addW w x y))), .no, .no, .no, .no, .no, .no, .no]) (ev_set (ev_call (p1 := P3) (ev_cons (p1 := P3) rfl (ev_cons (p1 := P3) (ev_call (p1 := P3) rfl (plus_ok hw)) rfl)) (order_ok hw (El.nn hadd))) (by show 9 < 17; omega)) ?_
  -- the first test
  refine ev_seq (p1 := P3) (s1 := [.fz (.ro (ns.map .int)), .pl, .fz (tupI w), .fz (.lst ((allL w).map tupI)), .fz (tupI x), .fz (tupI y), .fz (.int n), .fz (.int m), .fz (.int ((n : Int) * m / gcdI n m)), .fz (.int (ordW w (addW w x y))), .no, .no, .no, .no, .no, .no, .no]) (ev_ifF (p1 := P3) (ev_or (c := false) (p1 := P3) (ev_tst (ev_bin (p1 := P3) (ev_bin (p1 := P3) rfl rfl (modD_pos (a := (n : Int) * m / gcdI n m) (b := ordW w (addW w x y)) (by omega))) rfl ?_)) (fun z => by cases z) fun _ => ev_and (c := decide (gcdI n m = 1)) (p1 := P3) (ev_tst (ev_bin (p1 := P3) (ev_call (p1 := P3) rfl (lshared_ok (a := (n : Int)) (b := m) (by omega) (by omega) (by omega))) rfl (eqD_int _ _))) (fun h => ev_tst (ev_bin (p1 := P3) rfl rfl ?_)) (fun _ => rfl)) rfl) ?_
  · rw [both0, neD_int]
    rfl
  · rw [neD_int, s2 (of_decide_eq_true h), decide_eq_true rfl]
    rfl
  -- total = nothing
  refine ev_seq (p1 := P3) (s1 := sL (.ro (ns.map .int)) (.lst ((allL w).map tupI)) w x y n m ((n : Int) * m / gcdI n m) (ordW w (addW w x y)) (mulW w 0 x) .no .no .no .no .no .no) (ev_set (ev_call (p1 := P3) rfl (by rw [mul_zero hx]; exact nought_ok (by omega))) (by show 10 < 17; omega)) ?_
  -- the primes
  refine ev_seq (p1 := P3) (ev_for (p1 := P3) (ev_seqOf (ev_call (p1 := P3) rfl (prime_factors_ok q1)) rfl) hloop) ?_
  -- the second test
  refine ev_seq (p1 := P3) (s1 := sL (.ro (ns.map .int)) (.lst ((allL w).map tupI)) w x y n m ((n : Int) * m / gcdI n m) (ordW w (addW w x y)) x t11 t12 t13 t14 t15 .no) (ev_ifF (p1 := P3) (ev_or (c := false) (p1 := P3) (ev_tst (ev_bin (p1 := P3) rfl rfl ?_)) (fun z => by cases z) fun _ => ev_tst (ev_bin (p1 := P3) (ev_call (p1 := P3) (z := .int (rows.length : Nat)) (ev_cons (p1 := P3) (ev_call (p1 := P3) rfl r1) rfl) ?_) rfl ?_)) rfl) ?_
  · rw [neD_tupI, decide_eq_true rfl]
    rfl
  · show some (D.int ((rows.map tupI).length : Nat)) = _
    rw [List.length_map]
  · rw [neD_int, hlen, hn, decide_eq_true rfl]
    rfl
  -- d
  refine ev_seq (p1 := P4) (s1 := sL (.ro (ns.map .int)) (.lst ((allL w).map tupI)) w x y n m ((n : Int) * m / gcdI n m) (ordW w (addW w x y)) x t11 t12 t13 t14 t15 (.fz (.int (1 + v)))) (ev_set (ev_bin (p1 := P3) rfl (ev_callP (p1 := P3) rfl rfl hv) rfl) (by show 16 < 17; omega)) ?_
  refine ev_ret (ev_andV (c := true) (p1 := P4) (ev_bin (p1 := P4) (ev_call (p1 := P4) (ev_cons (p1 := P4) rfl (ev_cons (p1 := P4) (ev_call (p1 := P4) rfl (times_ok hw (El.sm hw hx))) rfl)) (order_ok hw (El.nn (el_mul _ hw hx)))) (ev_bin (p1 := P4) rfl (ev_call (p1 := P4) rfl (lshared_ok (a := 1 + v) (b := (n : Int)) (by omega) (by omega) (by omega))) (divD_pos (a := (n : Int)) (b := gcdI (1 + v) n) (by omega) (by omega))) ?_) (fun _ => ev_bin (p1 := P4) (ev_bin (p1 := P4) (ev_call (p1 := P4) (z := .int (w.getLastD 1)) (ev_cons (p1 := P4) (ev_call (p1 := P4) rfl exponent_ok) rfl) rfl) rfl (modD_pos (b := (n : Int)) (by omega))) rfl ?_) (fun z => by cases z))
  · rw [eqD_int, hordd, decide_eq_true rfl]
  · rw [hexp, eqD_int, decide_eq_true rfl]
end K20

namespace K20
section
open PySem PySem.Spec PyProof.Rows L2 DL
def dd_plus : He.DefD := ⟨("plus", none), "plus", "plus", defArgs s_plus, defBody s_plus, defScope s_plus, [], []⟩
def dd_times_element : He.DefD := ⟨("times_element", none), "times_element", "times_element", defArgs s_times_element, defBody s_times_element, defScope s_times_element, [], []⟩
def dd_nought : He.DefD := ⟨("nought", none), "nought", "nought", defArgs s_nought, defBody s_nought, defScope s_nought, [], []⟩
def dd_shared : He.DefD := ⟨("shared", none), "shared", "shared", defArgs s_shared, defBody s_shared, defScope s_shared, [], []⟩
def dd_order_of : He.DefD := ⟨("order_of", none), "order_of", "order_of", defArgs s_order_of, defBody s_order_of, defScope s_order_of, [], []⟩
def dd_exponent_of : He.DefD := ⟨("exponent_of", none), "exponent_of", "exponent_of", defArgs s_exponent_of, defBody s_exponent_of, defScope s_exponent_of, [], []⟩
def dd_made_by : He.DefD := ⟨("made_by", none), "made_by", "made_by", defArgs s_made_by, defBody s_made_by, defScope s_made_by, [], []⟩
def dd_prime_factors : He.DefD := ⟨("prime_factors", none), "prime_factors", "prime_factors", defArgs s_prime_factors, defBody s_prime_factors, defScope s_prime_factors, [], []⟩
def dd_part_for : He.DefD := ⟨("part_for", none), "part_for", "part_for", defArgs s_part_for, defBody s_part_for, defScope s_part_for, [], []⟩
def dd__law_pool : He.DefD := ⟨("_law_pool", none), "_law_pool", "_law_pool", defArgs s__law_pool, defBody s__law_pool, defScope s__law_pool, [], []⟩
def dd__law_spread : He.DefD := ⟨("_law_spread", none), "_law_spread", "_law_spread", defArgs s__law_spread, defBody s__law_spread, defScope s__law_spread, [], []⟩
def dd__law_draw : He.DefD := ⟨("_law_draw", none), "_law_draw", "_law_draw", defArgs s__law_draw, defBody s__law_draw, defScope s__law_draw, [], []⟩
def dd__law_pick : He.DefD := ⟨("_law_pick", none), "_law_pick", "_law_pick", defArgs s__law_pick, defBody s__law_pick, defScope s__law_pick, [], []⟩
def dd__law_shared : He.DefD := ⟨("_law_shared", none), "_law_shared", "_law_shared", defArgs s__law_shared, defBody s__law_shared, defScope s__law_shared, [], []⟩
def dd__law_falling : He.DefD := ⟨("_law_falling", none), "_law_falling", "_law_falling", defArgs s__law_falling, defBody s__law_falling, defScope s__law_falling, [], []⟩
def dd__law_wheels_with : He.DefD := ⟨("_law_wheels_with", none), "_law_wheels_with", "_law_wheels_with", defArgs s__law_wheels_with, defBody s__law_wheels_with, defScope s__law_wheels_with, [], []⟩
def dd__law_wheels : He.DefD := ⟨("_law_wheels", none), "_law_wheels", "_law_wheels", defArgs s__law_wheels, defBody s__law_wheels, defScope s__law_wheels, [], []⟩
def dd__law_all : He.DefD := ⟨("_law_all", none), "_law_all", "_law_all", defArgs s__law_all, defBody s__law_all, defScope s__law_all, [], []⟩
def dd_law : He.DefD := ⟨("law", none), "law", "law", defArgs s_law, defBody s_law, defScope s_law, [], []⟩
def fn : List He.DefD := [dd_plus, dd_times_element, dd_nought, dd_shared, dd_order_of, dd_exponent_of, dd_made_by, dd_prime_factors, dd_part_for, dd__law_pool, dd__law_spread, dd__law_draw, dd__law_pick, dd__law_shared, dd__law_falling, dd__law_wheels_with, dd__law_wheels, dd__law_all, dd_law]
def fa : List He.Fa := [.glo "plus", .glo "times_element", .glo "nought", .glo "shared", .glo "order_of", .glo "exponent_of", .glo "made_by", .glo "prime_factors", .glo "part_for", .glo "_law_pool", .glo "_law_spread", .glo "_law_draw", .glo "_law_pick", .glo "_law_shared", .glo "_law_falling", .glo "_law_wheels_with", .glo "_law_wheels", .glo "_law_all", .glo "law", .free "abs", .free "int", .free "len", .free "list", .free "max", .free "min", .free "range", .free "sorted", .free "tuple", .free "zip"]
abbrev RR : PySem.W.OpenRow := PySem.W.OpenLaw.row PySem.Challenge.rw_wheelsparted_k20_whole_elements_by_prime
abbrev hk : PySem.W.Hook := He.hookD 4 fa fn
def ob (s : PySem.W.SharedT) : He.AlD := He.obsDG 4 fa fn (HandSHeadRun.getT s)
theorem ob_eq (s : PySem.W.SharedT) : ob s = hk.obs s.abs := He.obsDG_eq (HandSHeadRun.getT_eq s)
def loose : List PySem.Str := ["plus", "times_element", "nought", "shared", "order_of", "exponent_of", "made_by", "prime_factors", "part_for", "_law_pool", "_law_spread", "_law_draw", "_law_pick", "_law_shared", "_law_falling", "_law_wheels_with", "_law_wheels", "_law_all"]
theorem run (w : World) : HandSHeadRun.RunEq RR (PySem.W.view RR.prog [22]) hk ob 2000 loose w := by
  intro os
  kernel_rfl
theorem facts (hS : ∀ ns : List Int, ns.length ≤ 63 → ∃ p', g_law (st0 N_law [.ro (ns.map .int)]) ⟨[], 0, 0, 0, 0⟩ = some (.rt (.bl true) p')) {P : Program} {w : World} {K : PySem.W.Frag} {h : Heap} {mg : Str → Option Value} {f : Addr} (X : K.In h) (G : h.Ns mainGlobals mg) (hfa : mg ("law" : Str) = some (.ref f)) (c : He.SaysD fa fn K) :
    ∃ fd : FuncData, (∀ (s : Shared) (v : Value), BindsTo s fd ⟨[v], []⟩ [("script", v)]) ∧ ∀ base : Heap, K.In base → base.Ns mainGlobals mg → FnOk P w K mg base CX0 15 f fd ["script"] (spLawD K) := by
  obtain ⟨fd_plus, F_plus⟩ := c.def_ 0 (d := dd_plus) rfl
  obtain ⟨fd_times_element, F_times_element⟩ := c.def_ 1 (d := dd_times_element) rfl
  obtain ⟨fd_nought, F_nought⟩ := c.def_ 2 (d := dd_nought) rfl
  obtain ⟨fd_shared, F_shared⟩ := c.def_ 3 (d := dd_shared) rfl
  obtain ⟨fd_order_of, F_order_of⟩ := c.def_ 4 (d := dd_order_of) rfl
  obtain ⟨fd_exponent_of, F_exponent_of⟩ := c.def_ 5 (d := dd_exponent_of) rfl
  obtain ⟨fd_made_by, F_made_by⟩ := c.def_ 6 (d := dd_made_by) rfl
  obtain ⟨fd_prime_factors, F_prime_factors⟩ := c.def_ 7 (d := dd_prime_factors) rfl
  obtain ⟨fd_part_for, F_part_for⟩ := c.def_ 8 (d := dd_part_for) rfl
  obtain ⟨fd__law_pool, F__law_pool⟩ := c.def_ 9 (d := dd__law_pool) rfl
  obtain ⟨fd__law_spread, F__law_spread⟩ := c.def_ 10 (d := dd__law_spread) rfl
  obtain ⟨fd__law_draw, F__law_draw⟩ := c.def_ 11 (d := dd__law_draw) rfl
  obtain ⟨fd__law_pick, F__law_pick⟩ := c.def_ 12 (d := dd__law_pick) rfl
  obtain ⟨fd__law_shared, F__law_shared⟩ := c.def_ 13 (d := dd__law_shared) rfl
  obtain ⟨fd__law_falling, F__law_falling⟩ := c.def_ 14 (d := dd__law_falling) rfl
  obtain ⟨fd__law_wheels_with, F__law_wheels_with⟩ := c.def_ 15 (d := dd__law_wheels_with) rfl
  obtain ⟨fd__law_wheels, F__law_wheels⟩ := c.def_ 16 (d := dd__law_wheels) rfl
  obtain ⟨fd__law_all, F__law_all⟩ := c.def_ 17 (d := dd__law_all) rfl
  obtain ⟨fd_law, F_law⟩ := c.def_ 18 (d := dd_law) rfl
  have e := hfa.symm.trans (He.glo_ok X G (c.fact 18 (f := .glo "law") rfl))
  cases e
  have b_plus := FunD.bindsN (ps := ["wheels", "one", "two"]) F_plus fun _ _ _ _ _ _ us hl => match us, hl with | [_, _, _], _ => rfl
  have D_plus : Df K mg "plus" s_plus ["wheels", "one", "two"] _ fd_plus := ⟨fun_of F_plus, He.glo_ok X G (c.fact 0 (f := .glo "plus") rfl), b_plus⟩
  have b_times_element := FunD.bindsN (ps := ["wheels", "k", "one"]) F_times_element fun _ _ _ _ _ _ us hl => match us, hl with | [_, _, _], _ => rfl
  have D_times_element : Df K mg "times_element" s_times_element ["wheels", "k", "one"] _ fd_times_element := ⟨fun_of F_times_element, He.glo_ok X G (c.fact 1 (f := .glo "times_element") rfl), b_times_element⟩
  have b_nought := FunD.bindsN (ps := ["wheels"]) F_nought fun _ _ _ _ _ _ us hl => match us, hl with | [_], _ => rfl
  have D_nought : Df K mg "nought" s_nought ["wheels"] _ fd_nought := ⟨fun_of F_nought, He.glo_ok X G (c.fact 2 (f := .glo "nought") rfl), b_nought⟩
  have b_shared := FunD.bindsN (ps := ["a", "b"]) F_shared fun _ _ _ _ _ _ us hl => match us, hl with | [_, _], _ => rfl
  have D_shared : Df K mg "shared" s_shared ["a", "b"] _ fd_shared := ⟨fun_of F_shared, He.glo_ok X G (c.fact 3 (f := .glo "shared") rfl), b_shared⟩
  have b_order_of := FunD.bindsN (ps := ["wheels", "one"]) F_order_of fun _ _ _ _ _ _ us hl => match us, hl with | [_, _], _ => rfl
  have D_order_of : Df K mg "order_of" s_order_of ["wheels", "one"] _ fd_order_of := ⟨fun_of F_order_of, He.glo_ok X G (c.fact 4 (f := .glo "order_of") rfl), b_order_of⟩
  have b_exponent_of := FunD.bindsN (ps := ["wheels"]) F_exponent_of fun _ _ _ _ _ _ us hl => match us, hl with | [_], _ => rfl
  have D_exponent_of : Df K mg "exponent_of" s_exponent_of ["wheels"] _ fd_exponent_of := ⟨fun_of F_exponent_of, He.glo_ok X G (c.fact 5 (f := .glo "exponent_of") rfl), b_exponent_of⟩
  have b_made_by := FunD.bindsN (ps := ["wheels", "items"]) F_made_by fun _ _ _ _ _ _ us hl => match us, hl with | [_, _], _ => rfl
  have D_made_by : Df K mg "made_by" s_made_by ["wheels", "items"] _ fd_made_by := ⟨fun_of F_made_by, He.glo_ok X G (c.fact 6 (f := .glo "made_by") rfl), b_made_by⟩
  have b_prime_factors := FunD.bindsN (ps := ["n"]) F_prime_factors fun _ _ _ _ _ _ us hl => match us, hl with | [_], _ => rfl
  have D_prime_factors : Df K mg "prime_factors" s_prime_factors ["n"] _ fd_prime_factors := ⟨fun_of F_prime_factors, He.glo_ok X G (c.fact 7 (f := .glo "prime_factors") rfl), b_prime_factors⟩
  have b_part_for := FunD.bindsN (ps := ["number", "p"]) F_part_for fun _ _ _ _ _ _ us hl => match us, hl with | [_, _], _ => rfl
  have D_part_for : Df K mg "part_for" s_part_for ["number", "p"] _ fd_part_for := ⟨fun_of F_part_for, He.glo_ok X G (c.fact 8 (f := .glo "part_for") rfl), b_part_for⟩
  have b__law_pool := FunD.bindsN (ps := ["script"]) F__law_pool fun _ _ _ _ _ _ us hl => match us, hl with | [_], _ => rfl
  have D__law_pool : Df K mg "_law_pool" s__law_pool ["script"] _ fd__law_pool := ⟨fun_of F__law_pool, He.glo_ok X G (c.fact 9 (f := .glo "_law_pool") rfl), b__law_pool⟩
  have b__law_spread := FunD.bindsN (ps := ["cell"]) F__law_spread fun _ _ _ _ _ _ us hl => match us, hl with | [_], _ => rfl
  have D__law_spread : Df K mg "_law_spread" s__law_spread ["cell"] _ fd__law_spread := ⟨fun_of F__law_spread, He.glo_ok X G (c.fact 10 (f := .glo "_law_spread") rfl), b__law_spread⟩
  have b__law_draw := FunD.bindsN (ps := ["pool", "many"]) F__law_draw fun _ _ _ _ _ _ us hl => match us, hl with | [_, _], _ => rfl
  have D__law_draw : Df K mg "_law_draw" s__law_draw ["pool", "many"] _ fd__law_draw := ⟨fun_of F__law_draw, He.glo_ok X G (c.fact 11 (f := .glo "_law_draw") rfl), b__law_draw⟩
  have b__law_pick := FunD.bindsN (ps := ["pool", "items"]) F__law_pick fun _ _ _ _ _ _ us hl => match us, hl with | [_, _], _ => rfl
  have D__law_pick : Df K mg "_law_pick" s__law_pick ["pool", "items"] _ fd__law_pick := ⟨fun_of F__law_pick, He.glo_ok X G (c.fact 12 (f := .glo "_law_pick") rfl), b__law_pick⟩
  have b__law_shared := FunD.bindsN (ps := ["a", "b"]) F__law_shared fun _ _ _ _ _ _ us hl => match us, hl with | [_, _], _ => rfl
  have D__law_shared : Df K mg "_law_shared" s__law_shared ["a", "b"] _ fd__law_shared := ⟨fun_of F__law_shared, He.glo_ok X G (c.fact 13 (f := .glo "_law_shared") rfl), b__law_shared⟩
  have b__law_falling := FunD.bindsN (ps := ["n", "most"]) F__law_falling fun _ _ _ _ _ _ us hl => match us, hl with | [_, _], _ => rfl
  have D__law_falling : Df K mg "_law_falling" s__law_falling ["n", "most"] _ fd__law_falling := ⟨fun_of F__law_falling, He.glo_ok X G (c.fact 14 (f := .glo "_law_falling") rfl), b__law_falling⟩
  have b__law_wheels_with := FunD.bindsN (ps := ["n"]) F__law_wheels_with fun _ _ _ _ _ _ us hl => match us, hl with | [_], _ => rfl
  have D__law_wheels_with : Df K mg "_law_wheels_with" s__law_wheels_with ["n"] _ fd__law_wheels_with := ⟨fun_of F__law_wheels_with, He.glo_ok X G (c.fact 15 (f := .glo "_law_wheels_with") rfl), b__law_wheels_with⟩
  have b__law_wheels := FunD.bindsN (ps := ["pool", "most"]) F__law_wheels fun _ _ _ _ _ _ us hl => match us, hl with | [_, _], _ => rfl
  have D__law_wheels : Df K mg "_law_wheels" s__law_wheels ["pool", "most"] _ fd__law_wheels := ⟨fun_of F__law_wheels, He.glo_ok X G (c.fact 16 (f := .glo "_law_wheels") rfl), b__law_wheels⟩
  have b__law_all := FunD.bindsN (ps := ["wheels"]) F__law_all fun _ _ _ _ _ _ us hl => match us, hl with | [_], _ => rfl
  have D__law_all : Df K mg "_law_all" s__law_all ["wheels"] _ fd__law_all := ⟨fun_of F__law_all, He.glo_ok X G (c.fact 17 (f := .glo "_law_all") rfl), b__law_all⟩
  have b_law := FunD.bindsN (ps := ["script"]) F_law fun _ _ _ _ _ _ us hl => match us, hl with | [_], _ => rfl
  have D_law : Df K mg "law" s_law ["script"] _ fd_law := ⟨fun_of F_law, He.glo_ok X G (c.fact 18 (f := .glo "law") rfl), b_law⟩
  have m_abs : mg "abs" = none := He.free_ok X G (c.fact 19 (f := .free "abs") rfl)
  have m_int : mg "int" = none := He.free_ok X G (c.fact 20 (f := .free "int") rfl)
  have m_len : mg "len" = none := He.free_ok X G (c.fact 21 (f := .free "len") rfl)
  have m_list : mg "list" = none := He.free_ok X G (c.fact 22 (f := .free "list") rfl)
  have m_max : mg "max" = none := He.free_ok X G (c.fact 23 (f := .free "max") rfl)
  have m_min : mg "min" = none := He.free_ok X G (c.fact 24 (f := .free "min") rfl)
  have m_range : mg "range" = none := He.free_ok X G (c.fact 25 (f := .free "range") rfl)
  have m_sorted : mg "sorted" = none := He.free_ok X G (c.fact 26 (f := .free "sorted") rfl)
  have m_tuple : mg "tuple" = none := He.free_ok X G (c.fact 27 (f := .free "tuple") rfl)
  have m_zip : mg "zip" = none := He.free_ok X G (c.fact 28 (f := .free "zip") rfl)
  have bb := FunD.bindsA (ps := ["script"]) F_law fun _ _ _ _ _ _ us hl => match us, hl with | [_], _ => rfl
  exact ⟨fd_law, fun s v => bb s [v] rfl, fun base _ _ => ok_all D_plus D_times_element D_nought D_shared D_order_of D_exponent_of D_made_by D_prime_factors D_part_for D__law_pool D__law_spread D__law_draw D__law_pick D__law_shared D__law_falling D__law_wheels_with D__law_wheels D__law_all D_law m_abs m_int m_len m_list m_max m_min m_range m_sorted m_tuple m_zip hS⟩
end
end K20
open PySem PySem.W PySem.Calls PyProof.Rows
theorem PySem.Challenge.cw_wheelsparted_k20_whole_elements_by_prime_holds : PySem.Challenge.rw_wheelsparted_k20_whole_elements_by_prime.Holds := by
  w_on; o_law
  refine HandSHeadRun.head_any (r := OpenLaw.row PySem.Challenge.rw_wheelsparted_k20_whole_elements_by_prime) (q := view (OpenLaw.row PySem.Challenge.rw_wheelsparted_k20_whole_elements_by_prime).prog [22]) (H := K20.hk) (ob := K20.ob) (M := 2000) (loose := K20.loose) (d := HandSHeadRun.topDef (OpenLaw.row PySem.Challenge.rw_wheelsparted_k20_whole_elements_by_prime).prog 22) (kwd := []) K20.ob_eq
    (by kernel_rfl) (fun s => by kernel_rfl) K20.run (by kernel_rfl) (by kernel_rfl) (by kernel_rfl) (by rfl) (by first | assumption | decide +kernel) (by decide +kernel) ⟨rfl, rfl, rfl, rfl, rfl, by decide +kernel⟩ ?hw ?hc
  case hw => w_witness2
  case hc =>
    refine L2.walk_ofE (l := PySem.Challenge.rw_wheelsparted_k20_whole_elements_by_prime) (n := 63) (k := 15) (x := "script") (CX := L2.CX0) rfl (by decide) (by kernel_rfl) ⟨rfl, by decide, by decide⟩ ?F (fun _ _ _ _ z => z)
    intro w mg fa h Y G hmg0
    obtain ⟨K, KX, c⟩ := Y
    have hmg : mg ("law" : PySem.Str) = some (.ref fa) := by
      have e : (HandSHeadRun.topDef (OpenLaw.row PySem.Challenge.rw_wheelsparted_k20_whole_elements_by_prime).prog 22).name = ("law" : PySem.Str) := by kernel_rfl
      rw [← e]
      exact hmg0
    obtain ⟨fd, hb, hF⟩ := K20.facts K20.law_plain (P := (PySem.Challenge.rw_wheelsparted_k20_whole_elements_by_prime).prog) (w := w) KX G hmg c
    exact ⟨K, fd, DL.spLawD K, KX, hb, fun H a ns hl _ hS => ⟨a, ns, rfl, hS, hl, fun _ => rfl⟩, hF⟩
